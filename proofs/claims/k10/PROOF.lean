import PyProof.Rows.All
import Wide.All
import OpenK.AllK
import Wide.FinOn
import PySem.Challenge.RW_reelstrip_k10_strings_that_are_no_plans
import HandS.ForMost
import HandS.ForExc
import HandS.Deep
import HandS.IsInst
import HandS.Wide
import HandS.HeadHook1
import HandS.TupAny
import HandS.TupMul
import HandS.TupLe
import HandS.Style
import KE.DataEq
import HandS.Codes
import KE.KeyNested
import KE.KDictCopyH
import HandS.Lambda
import HandS.Nested
import HandS.HeadHook4
import HandS.TryMany
import HandS.HotCalls
import HandS.ExcIs
import HandS.ExcCtx
import HandS.CallLocal
import HandS.Walk
import HandS.Iter
import HandS.Zip
import HandS.Defaults
import HandS.TupSets
import KE.SortData
import HandS.HeadEnd
import HandS.Head0
import HandS.Head1
import HandS.Head2
import HandS.HeadHook2
import HandS.EndTab
import KE.GoesZip
import HandS.Flow
import KE.KStateDown
import HandS.ExcInit
import HandS.ExcField
import HandS.ClsMeth
import KE.KExcIs
import KE.DataFind
import PyProof.SeqIndex
import KE.KNestM
section
set_option Elab.async false
set_option linter.all false
set_option maxRecDepth 100000
set_option maxHeartbeats 4000000
/-! The data layer, part 1: outcomes, what is kept, readings by data. -/
namespace DL
open PySem PySem.Spec PyProof.Rows L2

abbrev D := PyData
/-- an error: its class's name, and its own attribute where it has one -/
structure Exn where
  cls : Str
  arg : Option (Str × D)
/-- an outcome -/
inductive R (α : Type) where
  | ok (a : α) | ex (e : Exn) | un
def R.bind {α β : Type} (r : R α) (f : α → R β) : R β := match r with
  | .ok a => f a
  | .ex e => .ex e
  | .un => .un
@[simp] theorem bind_ok {α β : Type} (a : α) (f : α → R β) : (R.ok a).bind f = f a := rfl
@[simp] theorem bind_ex {α β : Type} (e : Exn) (f : α → R β) : (R.ex e).bind f = .ex e := rfl
@[simp] theorem bind_un {α β : Type} (f : α → R β) : (R.un).bind f = .un := rfl
theorem bind_assoc {α β γ : Type} (r : R α) (f : α → R β) (g : β → R γ) : (r.bind f).bind g = r.bind fun a => (f a).bind g := by cases r <;> rfl

/-! ### what is kept -/
def Ex (H H' : Hp) : Prop := ∀ a o, H a = some o → H' a = some o
theorem Ex.refl (H : Hp) : Ex H H := fun _ _ h => h
theorem Ex.trans {H H1 H2 : Hp} (a : Ex H H1) (b : Ex H1 H2) : Ex H H2 := fun x o h => b x o (a x o h)
theorem Ex.new {H : Hp} {p : Addr} {o : HO} (h : H p = none) : Ex H (upd H p o) := fun a u e => by
  rw [upd_ne (ne_of_none e h)]
  exact e
/-- what stands around: the program, the world, the written part, the names, the base -/
structure GC where
  P : Program
  w : World
  K : PySem.W.Frag
  mg : Str → Option Value
  base : Heap
abbrev _root_.L2.Cx.gc (X : Cx) : GC := ⟨X.prog, X.w, X.K, X.mg, X.base⟩
/-- no code object's table -/
def nT (o : HO) : Prop := ∀ ps, o ≠ .tbl ps
theorem nT_lst {xs : List V} : nT (.lst xs) := fun _ z => nomatch z
theorem nT_ext {φ : Heap → Prop} : nT (.ext φ) := fun _ z => nomatch z
/-- the defs of all laws that make a function without a name -/
def lamNames : List Str := ["law", "calendar_of", "truths_by", "stop_ticks", "periods", "reaches", "_law_of_plan", "_law_of_size", "_law_shown", "_law_did", "_law_refused"]
/-- their tables of code objects, each with the name that its code objects bear -/
def TK (K : PySem.W.Frag) : List (Addr × Str) := lamNames.filterMap fun x => if PySem.W.codeHdIn K (He.cT K (x, none)).1 (He.cT K (x, none)).2 then some ((He.cT K (x, none)).2, x ++ ".<locals>.<lambda>") else none
def Tb (G : GC) (H : Hp) : Prop := LamX.Tabs (TK G.K) H
theorem Tb.ext {G : GC} {H H' : Hp} (t : Tb G H) (e : ∀ b o, H b = some o → H' b = some o) : Tb G H' := LamX.Tabs.ext t e
theorem Tb.new {G : GC} {H : Hp} {p : Addr} {o : HO} (t : Tb G H) (h : H p = none) : Tb G (upd H p o) := t.ext fun b u e => by rw [upd_ne (ne_of_none e h)]; exact e
/-- what stands at a is neither a table nor a code object -/
def Fr1 (H : Hp) (a : Addr) : Prop := ∀ u, H a = some u → nT u ∧ ∀ q, u ≠ LamX.CodeO a q
theorem Fr1.new {H : Hp} {a : Addr} (h : H a = none) : Fr1 H a := fun u e => by rw [h] at e; cases e
theorem Fr1.lst {H : Hp} {a : Addr} {xs : List V} (h : H a = some (.lst xs)) : Fr1 H a := fun u e => by
  rw [h] at e; cases e
  exact ⟨nT_lst, fun q z => by unfold LamX.CodeO at z; cases z⟩
theorem Tb.put {G : GC} {H : Hp} {p : Addr} {o : HO} (t : Tb G H) (h : Fr1 H p) : Tb G (upd H p o) := fun z hz => by
  obtain ⟨ps, h1, h2, h3⟩ := t z hz
  refine ⟨ps, ?_, h2, fun pos cv hc => ?_⟩
  · rw [upd_ne (fun y => (h _ (by rw [← y]; exact h1)).1 ps rfl)]; exact h1
  · obtain ⟨c, e1, e2⟩ := h3 pos cv hc
    refine ⟨c, e1, ?_⟩
    rw [upd_ne (fun y => (h _ (by rw [← y]; exact e2)).2 z.2 (by rw [y]))]; exact e2
/-- what a block may write or know beside: a list it is handed; a frozen part that is known -/
inductive PQ where
  | sp (a : Addr)
  | fn (F : Hp)
/-- from (F, H) to (F', H'): F is what never changes again; p may be written -/
structure Ext (G : GC) (p : Option PQ) (F H F' H' : Hp) : Prop where
  ff : Ex F F'
  fh : Ex F' H'
  own : ∀ a, H a ≠ none → F' a = F a
  st : ∀ a o, some (PQ.sp a) ≠ p → H a = some o → nT o → H' a = some o
  dom : ∀ a, H a ≠ none → H' a ≠ none
  tb : Tb G H → Tb G H'
theorem Ext.refl {G : GC} {p : Option PQ} {F H : Hp} (e : Ex F H) : Ext G p F H F H := ⟨Ex.refl F, e, fun _ _ => rfl, fun _ _ _ h _ => h, fun _ h => h, id⟩
theorem Ext.trans {G : GC} {p : Option PQ} {F H F1 H1 F2 H2 : Hp} (a : Ext G p F H F1 H1) (b : Ext G p F1 H1 F2 H2) : Ext G p F H F2 H2 :=
  ⟨a.ff.trans b.ff, b.fh, fun x h => (b.own x (a.dom x h)).trans (a.own x h), fun x o n h q => b.st x o n (a.st x o n h q) q, fun x h => b.dom x (a.dom x h), fun t => b.tb (a.tb t)⟩
theorem Ext.weak {G : GC} {p : Option PQ} {F H F' H' : Hp} (a : Ext G none F H F' H') : Ext G p F H F' H' :=
  ⟨a.ff, a.fh, a.own, fun x o _ h q => a.st x o (by simp) h q, a.dom, a.tb⟩
theorem Ext.ex {G : GC} {F H F' H' : Hp} (a : Ext G none F H F' H') : ∀ x o, H x = some o → nT o → H' x = some o := fun x o h q => a.st x o (by simp) h q
/-- a new thing that never changes -/
theorem Ext.new {G : GC} {q : Option PQ} {F H : Hp} {p : Addr} {o : HO} (e : Ex F H) (h : H p = none) : Ext G q F H (upd F p o) (upd H p o) := by
  have hF : F p = none := by
    cases q : F p with
    | none => rfl
    | some u => rw [e p u q] at h; cases h
  refine ⟨Ex.new hF, fun a u ea => ?_, fun a ha => upd_ne (fun z => ha (by rw [z]; exact h)), fun a u _ ha _ => by rw [upd_ne (ne_of_none ha h)]; exact ha, fun a ha => by rw [upd_ne (fun z => ha (by rw [z]; exact h))]; exact ha, fun t => t.new h⟩
  by_cases hb : a = p
  · rw [hb, upd_same] at ea ⊢; exact ea
  · rw [upd_ne hb] at ea ⊢; exact e a u ea
/-- a new thing of one's own -/
theorem Ext.mine {G : GC} {q : Option PQ} {F H : Hp} {p : Addr} {o : HO} (e : Ex F H) (h : H p = none) : Ext G q F H F (upd H p o) :=
  ⟨Ex.refl F, e.trans (Ex.new h), fun _ _ => rfl, fun a u _ ha _ => by rw [upd_ne (ne_of_none ha h)]; exact ha, fun a ha => by rw [upd_ne (fun z => ha (by rw [z]; exact h))]; exact ha, fun t => t.new h⟩
theorem ex_rd {H H' : Hp} {a : Addr} {u : HO} (e : Ex H H') (h : Rd H a u) : Rd H' a u := by
  rcases h with h | ⟨o, h⟩
  · exact Or.inl (e a _ h)
  · exact Or.inr ⟨o, e a _ h⟩
theorem ex_l {K : PySem.W.Frag} {H H' : Hp} {a : Addr} {xs : List V} (e : Ex H H') (h : SqL K H a xs) : SqL K H' a xs := by
  rcases h with h | h
  · exact Or.inl (ex_rd e h)
  · exact Or.inr h
theorem ex_t {K : PySem.W.Frag} {H H' : Hp} {a : Addr} {xs : List V} (e : Ex H H') (h : SqT K H a xs) : SqT K H' a xs := by
  rcases h with h | h
  · exact Or.inl (ex_rd e h)
  · exact Or.inr h
/-- the key that data are -/
def toKey : D → NestedKey
  | .none => .none
  | .bool b => .num (if b then 1 else 0)
  | .int i => .num i
  | .str x => .text x
  | .list _ => .none
  | .dict _ => .none
  | .tuple ds => .tup (toKeys ds)
where toKeys : List D → List NestedKey
  | [] => []
  | d :: ds => toKey d :: toKeys ds
/-- data that may be a key -/
def keyOk : D → Bool
  | .list _ => false
  | .dict _ => false
  | .tuple ds => keysOk ds
  | _ => true
where keysOk : List D → Bool
  | [] => true
  | d :: ds => keyOk d && keysOk ds
def isTup : D → Bool
  | .tuple _ => true
  | _ => false
/-- one key may be asked: of its sort, not too deep -/
def keyT (t : Bool) (k : D) : Bool := keyOk k && (decide (isTup k = t) && decide ((toKey k).depth ≤ 8))
/-- the pairs of a dict: keys all tuples, or none a tuple; all apart -/
def dictOk (kvs : List (D × D)) : Bool := (kvs.all (fun q => keyT true q.1) || kvs.all fun q => keyT false q.1) && (decide (kvs.map fun q => toKey q.1).Nodup && decide (kvs.length ≤ 1000000))
/-- a dict's object, entry by entry -/
def dO (a : Addr) (es : List DictEntry) : HO := .ext fun h => (a == sysModules) = false ∧ ∃ o ep, h.get? a = some o ∧ o.ExactDict ∧ o.data = .dict es.toArray ep
theorem heap_of_size (h0 : Heap) : ∀ a : Nat, ∃ h : Heap, h.objs.size = h0.objs.size + a
  | 0 => ⟨h0, rfl⟩
  | a + 1 => by
    obtain ⟨h, e⟩ := heap_of_size h0 a
    refine ⟨h.push { cls := .none, data := .fields #[] }, ?_⟩
    rw [show (h.push { cls := .none, data := .fields #[] }).objs.size = h.objs.size + 1 from by simp [Heap.push], e]
    omega
theorem heap_at (a : Nat) : ∃ h : Heap, h.objs.size = a := by
  obtain ⟨h, e⟩ := heap_of_size { objs := #[] } a
  exact ⟨h, by rw [e]; simp⟩
theorem dO_ne {a : Addr} {es : List DictEntry} (q : Str) : dO a es ≠ LamX.CodeO a q := fun z => by
  unfold dO LamX.CodeO at z
  injection z with z
  obtain ⟨h, e⟩ := heap_at a
  have c := congrFun z (h.push { cls := .none, data := .fields #[.none, .str q 0] })
  have g : (h.push { cls := .none, data := .fields #[.none, .str q 0] }).get? a = some { cls := .none, data := .fields #[.none, .str q 0] } := by rw [← e]; exact Heap.get?_push_size _ rfl
  have c2 := c.mpr ⟨_, _, 0, g, rfl, rfl⟩
  obtain ⟨_, o, ep, e1, _, e3⟩ := c2
  rw [g] at e1
  cases e1
  cases e3
theorem Fr1.dct {H : Hp} {a : Addr} {es : List DictEntry} (h : H a = some (dO a es)) : Fr1 H a := fun u e => by
  rw [h] at e; cases e
  exact ⟨nT_ext, dO_ne⟩
/-- an address as such (a def, a class ..) -/
def opq (a : Addr) : D := .dict [(.none, .int (a : Nat)), (.none, .none)]
/-! the value v is these data: lists stand in H itself -/
mutual
inductive DD (G : GC) (H : Hp) : V → D → Prop
  | non : DD G H .non .none
  | bl (b : Bool) : DD G H (.bl b) (.bool b)
  | int (i : Int) : DD G H (.int i) (.int i)
  | str (x : Str) : DD G H (.str x) (.str x)
  | lst {a : Addr} {xs : List V} {ds : List D} : SqL G.K H a xs → DDs G H xs ds → DD G H (.ref a) (.list ds)
  | tup {a : Addr} {xs : List V} {ds : List D} : SqT G.K H a xs → DDs G H xs ds → DD G H (.ref a) (.tuple ds)
  | dct {a : Addr} {es : List DictEntry} {kvs : List (D × D)} : H a = some (dO a es) → dictOk kvs = true → DE G H es kvs → DD G H (.ref a) (.dict kvs)
  | opq (a : Addr) : DD G H (.ref a) (.dict [(.none, .int (a : Nat)), (.none, .none)])
inductive DDs (G : GC) (H : Hp) : List V → List D → Prop
  | nil : DDs G H [] []
  | cons {v : V} {vs : List V} {d : D} {ds : List D} : DD G H v d → DDs G H vs ds → DDs G H (v :: vs) (d :: ds)
inductive DE (G : GC) (H : Hp) : List DictEntry → List (D × D) → Prop
  | nil : DE G H [] []
  | cons {en : DictEntry} {es : List DictEntry} {k d : D} {kv v : V} {kvs : List (D × D)} : en.hash = (toKey k).hash G.w → RelV kv en.key → DD G H kv k → RelV v en.val → DD G H v d → DE G H es kvs → DE G H (en :: es) ((k, d) :: kvs)
end
mutual
theorem dd_dp {G : GC} {H : Hp} : ∀ (d : D) (v : V), DD G H v d → d.plain = true → Dp G.K H v d
  | .none, v, h, _ => by cases h; exact .non
  | .bool b, v, h, _ => by cases h; exact .bl b
  | .int i, v, h, _ => by cases h; exact .int i
  | .str x, v, h, _ => by cases h; exact .str x
  | .list ds, v, h, q => by
    cases h with
    | lst s a => exact .lst s (dds_dp ds _ a (by simpa only [PyData.plain] using q))
  | .tuple ds, v, h, q => by
    cases h with
    | tup s a => exact .tup s (dds_dp ds _ a (by simpa only [PyData.plain] using q))
  | .dict _, v, h, q => by simp [PyData.plain] at q
theorem dds_dp {G : GC} {H : Hp} : ∀ (ds : List D) (vs : List V), DDs G H vs ds → PyData.plainAll ds = true → DpAll G.K H vs ds
  | [], vs, h, _ => by cases h; exact .nil
  | d :: ds, vs, h, q => by
    cases h with
    | cons h1 h2 =>
      simp only [PyData.plainAll, Bool.and_eq_true] at q
      exact .cons (dd_dp d _ h1 q.1) (dds_dp ds _ h2 q.2)
end
mutual
theorem dd_ex {G : GC} {H H' : Hp} (e : Ex H H') : ∀ (v : V) (d : D), DD G H v d → DD G H' v d
  | _, _, .non => .non
  | _, _, .bl b => .bl b
  | _, _, .int b => .int b
  | _, _, .str b => .str b
  | _, _, .lst s a => .lst (ex_l e s) (dds_ex e _ _ a)
  | _, _, .tup s a => .tup (ex_t e s) (dds_ex e _ _ a)
  | _, _, .dct s k a => .dct (e _ _ s) k (de_ex e _ _ a)
  | _, _, .opq a => .opq a
theorem dds_ex {G : GC} {H H' : Hp} (e : Ex H H') : ∀ (vs : List V) (ds : List D), DDs G H vs ds → DDs G H' vs ds
  | _, _, .nil => .nil
  | _, _, .cons h1 h2 => .cons (dd_ex e _ _ h1) (dds_ex e _ _ h2)
theorem de_ex {G : GC} {H H' : Hp} (e : Ex H H') : ∀ (es : List DictEntry) (ds : List (D × D)), DE G H es ds → DE G H' es ds
  | _, _, .nil => .nil
  | _, _, .cons a b c d f g => .cons a b (dd_ex e _ _ c) d (dd_ex e _ _ f) (de_ex e _ _ g)
end
theorem DD.ex {G : GC} {H H' : Hp} {v : V} {d : D} (h : DD G H v d) (e : Ex H H') : DD G H' v d := dd_ex e v d h
theorem DDs.ex {G : GC} {H H' : Hp} {vs : List V} {ds : List D} (h : DDs G H vs ds) (e : Ex H H') : DDs G H' vs ds := dds_ex e vs ds h
theorem DE.ex {G : GC} {H H' : Hp} {vs : List DictEntry} {ds : List (D × D)} (h : DE G H vs ds) (e : Ex H H') : DE G H' vs ds := de_ex e vs ds h
theorem DD.dp {G : GC} {H : Hp} {v : V} {d : D} (h : DD G H v d) (q : d.plain = true) : L2.Dp G.K H v d := dd_dp d v h q
theorem DDs.dp {G : GC} {H : Hp} {v : List V} {d : List D} (h : DDs G H v d) (q : PyData.plainAll d = true) : L2.DpAll G.K H v d := dds_dp d v h q
section
variable {G : GC} {H : Hp}
theorem DDs.len : ∀ {vs : List V} {ds : List D}, DDs G H vs ds → vs.length = ds.length
  | _, _, .nil => rfl
  | _, _, .cons _ t => congrArg (· + 1) (DDs.len t)
theorem DDs.get : ∀ {vs : List V} {ds : List D} {i : Nat} {d : D}, DDs G H vs ds → ds[i]? = some d → ∃ v, vs[i]? = some v ∧ DD G H v d
  | _, _, 0, _, .cons h _, e => ⟨_, rfl, by cases e; exact h⟩
  | _, _, i + 1, d, .cons _ t, e => DDs.get (i := i) t e
theorem DDs.get' : ∀ {vs : List V} {ds : List D} {i : Nat} {v : V}, DDs G H vs ds → vs[i]? = some v → ∃ d, ds[i]? = some d ∧ DD G H v d
  | _, _, 0, _, .cons h _, e => ⟨_, rfl, by cases e; exact h⟩
  | _, _, i + 1, v, .cons _ t, e => DDs.get' (i := i) t e
theorem DDs.app : ∀ {vs us : List V} {ds es : List D}, DDs G H vs ds → DDs G H us es → DDs G H (vs ++ us) (ds ++ es)
  | _, _, _, _, .nil, b => b
  | _, _, _, _, .cons h t, b => .cons h (DDs.app t b)
theorem DDs.take : ∀ {vs : List V} {ds : List D} (n : Nat), DDs G H vs ds → DDs G H (vs.take n) (ds.take n)
  | _, _, 0, _ => .nil
  | _, _, _ + 1, .nil => .nil
  | _, _, n + 1, .cons h t => .cons h (DDs.take n t)
theorem DDs.drop : ∀ {vs : List V} {ds : List D} (n : Nat), DDs G H vs ds → DDs G H (vs.drop n) (ds.drop n)
  | _, _, 0, h => h
  | _, _, _ + 1, .nil => .nil
  | _, _, n + 1, .cons _ t => DDs.drop n t
theorem DDs.set : ∀ {vs : List V} {ds : List D} (i : Nat) {v : V} {d : D}, DDs G H vs ds → DD G H v d → DDs G H (vs.set i v) (ds.set i d)
  | _, _, _, _, _, .nil, _ => .nil
  | _, _, 0, _, _, .cons _ t, b => .cons b t
  | _, _, i + 1, _, _, .cons h t, b => .cons h (DDs.set i t b)
theorem DDs.one {v : V} {d : D} (h : DD G H v d) : DDs G H [v] [d] := .cons h .nil
end

/-! ### the drawn state: what stands at p -/
/-- the tables stand, and are not known to the frozen part -/
def TbF (G : GC) (F H : Hp) : Prop := Tb G H ∧ ∀ z ∈ TK G.K, F z.1 = none
theorem Tb.some {G : GC} {H : Hp} (t : Tb G H) {z : Addr × Str} (hz : z ∈ TK G.K) : ∃ ps, H z.1 = some (.tbl ps) := by
  obtain ⟨ps, h1, _⟩ := t z hz
  exact ⟨ps, h1⟩
theorem TbF.ext {G : GC} {p : Option PQ} {F H F' H' : Hp} (t : TbF G F H) (e : Ext G p F H F' H') : TbF G F' H' :=
  ⟨e.tb t.1, fun z hz => (e.own z.1 (by obtain ⟨ps, h⟩ := t.1.some hz; rw [h]; simp)).trans (t.2 z hz)⟩
def SRel (G : GC) (p : Option PQ) (F H : Hp) (s : List D) : Prop := TbF G F H ∧ match p with
  | none => s = []
  | some (.sp a) => F a = none ∧ ∃ vs, H a = some (.lst vs) ∧ DDs G (fun _ => none) vs s
  | some (.fn F1) => s = [] ∧ Ex F1 F
theorem SRel.ext {G : GC} {p : Option PQ} {F H F' H' : Hp} {s : List D} (h : SRel G p F H s) (e : Ext G none F H F' H') : SRel G p F' H' s := by
  refine ⟨h.1.ext e, ?_⟩
  match p, h.2 with
  | none, h => exact h
  | some (.sp a), h =>
    obtain ⟨h1, vs, h2, h3⟩ := h
    exact ⟨(e.own a (by rw [h2]; simp)).trans h1, vs, e.ex a _ h2 nT_lst, h3⟩
  | some (.fn F1), h => exact ⟨h.1, h.2.trans e.ff⟩
theorem SRel.put {G : GC} {p : Option PQ} {F H : Hp} {s : List D} {a : Addr} {o : HO} (r : SRel G p F H s) (h : some (PQ.sp a) ≠ p) (f : Fr1 H a) : SRel G p F (upd H a o) s := by
  refine ⟨⟨r.1.1.put f, r.1.2⟩, ?_⟩
  match p, r.2, h with
  | none, r, _ => exact r
  | some (.sp b), r, h =>
    obtain ⟨h1, vs, h2, h3⟩ := r
    exact ⟨h1, vs, by rw [upd_ne (fun z => h (by rw [z]))]; exact h2, h3⟩
  | some (.fn F1), r, _ => exact r
theorem SRel.ne {G : GC} {p : Option PQ} {F H : Hp} {s : List D} {a : Addr} (r : SRel G p F H s) (h : H a = none) : some (PQ.sp a) ≠ p := fun z => by
  subst z
  obtain ⟨_, _, vs, h2, _⟩ := r
  rw [h] at h2; cases h2
abbrev Rho := List (Option D)
def RelD (G : GC) (F : Hp) (σ : L2.St) (ρ : Rho) : Prop := ∀ (i : Nat) (d : D), ρ[i]? = some (some d) → ∃ v, σ[i]? = some (some v) ∧ DD G F v d
theorem RelD.ex {G : GC} {F F' : Hp} {σ : L2.St} {ρ : Rho} (h : RelD G F σ ρ) (e : Ex F F') : RelD G F' σ ρ := fun i d q =>
  let ⟨v, a, b⟩ := h i d q
  ⟨v, a, DD.ex b e⟩
/-- what is asked of an error that leaves -/
def ExW (G : GC) (E : XK) (e : Exn) (F H : Hp) : Prop := match e.arg with
  | none => E (.ref (He.ga G.K e.cls)) none H
  | some (nm, d) => ∀ x v, H x = some (.xd [(nm, v)]) → DD G F v d → E (.ref (He.ga G.K e.cls)) (some x) H
abbrev EM := Rho → List D → R (D × List D)
abbrev TM := Rho → List D → R (Bool × List D)
abbrev AM := Rho → List D → R (List D × List D)
/-- an outcome of data, and what is wanted of it -/
def Post {α β : Type} (G : GC) (p : Option PQ) (E : XK) (F H : Hp) (r : R (α × List D)) (rel : Hp → Hp → β → α → Prop) (Q : β → Hp → Prop) : Prop := match r with
  | .ok (d, s) => ∀ F' v H', Ext G p F H F' H' → SRel G p F' H' s → rel F' H' v d → Q v H'
  | .ex e => ∀ F' H', Ext G p F H F' H' → ExW G E e F' H'
  | .un => False
abbrev relB : Hp → Hp → Bool → Bool → Prop := fun _ _ b c => b = c
structure Pre (G : GC) (p : Option PQ) (F H : Hp) (σ : L2.St) (ρ : Rho) (s : List D) : Prop where
  ex : Ex F H
  sr : SRel G p F H s
  rd : RelD G F σ ρ
def tD (G : GC) (p : Option PQ) (E : XK) (f : EM) : TE := fun σ H Q => ∃ F ρ s, Pre G p F H σ ρ s ∧ Post G p E F H (f ρ s) (fun F' _ v d => DD G F' v d) Q
def tDB (G : GC) (p : Option PQ) (E : XK) (f : TM) : TT := fun σ H Q => ∃ F ρ s, Pre G p F H σ ρ s ∧ Post G p E F H (f ρ s) relB Q
def tDA (G : GC) (p : Option PQ) (E : XK) (f : AM) : TA := fun σ H Q => ∃ F ρ s, Pre G p F H σ ρ s ∧ Post G p E F H (f ρ s) (fun F' _ v d => DDs G F' v d) Q
theorem Pre.next {G : GC} {p : Option PQ} {F H F' H' : Hp} {σ : L2.St} {ρ : Rho} {s s' : List D} (a : Pre G p F H σ ρ s) (e : Ext G p F H F' H') (r : SRel G p F' H' s') : Pre G p F' H' σ ρ s' := ⟨e.fh, r, a.rd.ex e.ff⟩
/-- first one thing, then another -/
theorem Post.bind {α β γ δ : Type} {G : GC} {p : Option PQ} {E : XK} {F H : Hp} {r : R (α × List D)} {f : α × List D → R (γ × List D)} {rel : Hp → Hp → β → α → Prop} {rel' : Hp → Hp → δ → γ → Prop} {Q : δ → Hp → Prop} {T : β → Hp → Prop}
    (h : Post G p E F H (r.bind f) rel' Q)
    (k : ∀ d s F' v H', r = .ok (d, s) → Ext G p F H F' H' → SRel G p F' H' s → rel F' H' v d → Post G p E F' H' (f (d, s)) rel' Q → T v H') : Post G p E F H r rel T := by
  cases r with
  | un => exact h
  | ex e => exact h
  | ok z =>
    obtain ⟨d, s⟩ := z
    intro F' v H' e1 r1 d1
    refine k d s F' v H' rfl e1 r1 d1 ?_
    have h2 : Post G p E F H (f (d, s)) rel' Q := h
    cases q : f (d, s) with
    | un => rw [q] at h2; exact h2
    | ex e => rw [q] at h2; exact fun F2 H2 e2 => h2 F2 H2 (e1.trans e2)
    | ok z => rw [q] at h2; exact fun F2 v2 H2 e2 => h2 F2 v2 H2 (e1.trans e2)
theorem Post.imp {α β : Type} {G : GC} {p : Option PQ} {E : XK} {F H : Hp} {r : R (α × List D)} {rel : Hp → Hp → β → α → Prop} {Q Q' : β → Hp → Prop} (h : Post G p E F H r rel Q) (k : ∀ v H', Q v H' → Q' v H') : Post G p E F H r rel Q' := by
  cases r with
  | un => exact h
  | ex e => exact h
  | ok z => exact fun F' v H' a b c => k v H' (h F' v H' a b c)
end DL
end

section
set_option Elab.async false
set_option linter.all false
set_option maxRecDepth 100000
set_option maxHeartbeats 4000000
/-! The data layer, part 2: expressions. -/
namespace DL
open PySem PySem.Spec PyProof.Rows L2
theorem pe_imp {X : Cx} {e : Expr} {t t' : TE} (h : PE X e t) (k : ∀ σ H Q, t' σ H Q → t σ H Q) : PE X e t' := ⟨fun pins s σ H Q I hw => h.run pins s σ H Q I (k σ H Q hw)⟩
theorem pt_imp {X : Cx} {e : Expr} {t t' : TT} (h : PT X e t) (k : ∀ σ H Q, t' σ H Q → t σ H Q) : PT X e t' := ⟨fun pins s σ H Q I hw => h.run pins s σ H Q I (k σ H Q hw)⟩
theorem pw_imp {X : Cx} {e : Expr} {t t' : TT} (h : PW X e t) (k : ∀ σ H Q, t' σ H Q → t σ H Q) : PW X e t' := ⟨fun wh pins s σ H Q I hw => h.run wh pins s σ H Q I (k σ H Q hw)⟩
theorem pa_imp {X : Cx} {e : List Expr} {t t' : TA} (h : PA X e t) (k : ∀ σ H Q, t' σ H Q → t σ H Q) : PA X e t' := ⟨fun pos pins s σ H Q I hw => h.run pos pins s σ H Q I (k σ H Q hw)⟩
abbrev PED (X : Cx) (p : Option PQ) (E : XK) (e : Expr) (f : EM) : Prop := PE X e (tD X.gc p E f)
abbrev PTD (X : Cx) (p : Option PQ) (E : XK) (e : Expr) (f : TM) : Prop := PT X e (tDB X.gc p E f)
abbrev PWD (X : Cx) (p : Option PQ) (E : XK) (e : Expr) (f : TM) : Prop := PW X e (tDB X.gc p E f)
abbrev PAD (X : Cx) (p : Option PQ) (E : XK) (e : List Expr) (f : AM) : Prop := PA X e (tDA X.gc p E f)

/-! ### what is said of data -/
def ofO {α : Type} (o : Option α) (s : List D) : R (α × List D) := match o with
  | some a => .ok (a, s)
  | none => .un
@[simp] theorem ofO_some {α : Type} (a : α) (s : List D) : ofO (some a) s = .ok (a, s) := rfl
@[simp] theorem ofO_none {α : Type} (s : List D) : ofO (none : Option α) s = .un := rfl
def eC (d : D) : EM := fun _ s => .ok (d, s)
def eVar (i : Nat) : EM := fun ρ s => match ρ[i]? with
  | some (some d) => .ok (d, s)
  | _ => .un
def eOp (op : D → D → Option D) (a b : EM) : EM := fun ρ s => (a ρ s).bind fun z => (b ρ z.2).bind fun y => ofO (op z.1 y.1) y.2
def eUn (op : D → Option D) (a : EM) : EM := fun ρ s => (a ρ s).bind fun z => ofO (op z.1) z.2
def aNil : AM := fun _ s => .ok ([], s)
def aCons (a : EM) (r : AM) : AM := fun ρ s => (a ρ s).bind fun z => (r ρ z.2).bind fun y => .ok (z.1 :: y.1, y.2)
def small (n : Nat) : Bool := decide (n ≤ 1000000)
theorem small_line {n : Nat} (h : small n = true) : n < sizeLine := Nat.lt_of_le_of_lt (of_decide_eq_true h) (by decide)
def eTup (a : AM) : EM := fun ρ s => (a ρ s).bind fun z => .ok (.tuple z.1, z.2)
def eLst (a : AM) : EM := fun ρ s => (a ρ s).bind fun z => .ok (.list z.1, z.2)
def eIf (c : TM) (a b : EM) : EM := fun ρ s => (c ρ s).bind fun z => if z.1 = true then a ρ z.2 else b ρ z.2
def isB : D → Option Bool
  | .bool b => some b
  | _ => none
def tE (a : EM) : TM := fun ρ s => (a ρ s).bind fun z => ofO (isB z.1) z.2
def tAn (a b : TM) : TM := fun ρ s => (a ρ s).bind fun z => if z.1 = true then b ρ z.2 else .ok (false, z.2)
def tOrr (a b : TM) : TM := fun ρ s => (a ρ s).bind fun z => if z.1 = true then .ok (true, z.2) else b ρ z.2
def tNo (a : TM) : TM := fun ρ s => (a ρ s).bind fun z => .ok (!z.1, z.2)
def eAnd (a b : EM) : EM := fun ρ s => (a ρ s).bind fun z => (ofO (isB z.1) z.2).bind fun y => if y.1 = true then b ρ y.2 else .ok (.bool false, y.2)
def eOr (a b : EM) : EM := fun ρ s => (a ρ s).bind fun z => (ofO (isB z.1) z.2).bind fun y => if y.1 = true then .ok (.bool true, y.2) else b ρ y.2
def eNot (a : EM) : EM := fun ρ s => (a ρ s).bind fun z => (ofO (isB z.1) z.2).bind fun y => .ok (.bool (!y.1), y.2)
def eChain (op op' : D → D → Option D) (a b c : EM) : EM := fun ρ s => (a ρ s).bind fun x => (b ρ x.2).bind fun y => (ofO (op x.1 y.1) y.2).bind fun k => (ofO (isB k.1) k.2).bind fun l =>
  if l.1 = true then (c ρ l.2).bind fun z => ofO (op' y.1 z.1) z.2 else .ok (.bool false, l.2)
/-- a call of a function that leaves the drawn state alone -/
def eCall (m : List D → R D) (a : AM) : EM := fun ρ s => (a ρ s).bind fun z => (m z.1).bind fun d => .ok (d, z.2)
def eCB (op : List D → Option D) (a : AM) : EM := fun ρ s => (a ρ s).bind fun z => ofO (op z.1) z.2

section
variable {X : Cx} {E : XK} {p : Option PQ} {e a b c : Expr} {es : List Expr} {f fa fb fc : EM} {g ga gb : TM} {h ha : AM} {pos : Pos}

theorem DD.inv_bool {G : GC} {H : Hp} {v : V} {k : Bool} (h : DD G H v (.bool k)) : v = .bl k := by cases h; rfl
theorem DD.inv_int {G : GC} {H : Hp} {v : V} {k : Int} (h : DD G H v (.int k)) : v = .int k := by cases h; rfl
theorem DD.inv_str {G : GC} {H : Hp} {v : V} {k : Str} (h : DD G H v (.str k)) : v = .str k := by cases h; rfl
theorem DD.inv_none {G : GC} {H : Hp} {v : V} (h : DD G H v .none) : v = .non := by cases h; rfl
theorem isB_some {d : D} {k : Bool} (h : isB d = some k) : d = .bool k := by
  cases d <;> simp [isB] at h
  rw [h]

/-! ### the simple ones -/
theorem Post.okI {α β : Type} {G : GC} {p : Option PQ} {E : XK} {F H : Hp} {d : α} {s : List D} {rel : Hp → Hp → β → α → Prop} {Q : β → Hp → Prop} (h : Post G p E F H (.ok (d, s)) rel Q) {v : β} (e : Ex F H) (r : SRel G p F H s) (q : rel F H v d) : Q v H :=
  h F v H (Ext.refl e) r q
theorem pd_c {v : V} {d : D} (h : PE X e (tC v)) (hd : ∀ H, DD X.gc H v d) : PED X p E e (eC d) :=
  pe_imp h fun σ H Q ⟨F, ρ, s, pre, post⟩ => Post.okI post pre.ex pre.sr (hd F)
theorem pd_int {i j pos} : PED X p E (.Constant (.int i) j pos) (eC (.int i)) := pd_c pe_int fun _ => .int i
theorem pd_bl {i j pos} : PED X p E (.Constant (.bool i) j pos) (eC (.bool i)) := pd_c pe_bl fun _ => .bl i
theorem pd_non {j pos} : PED X p E (.Constant .none j pos) (eC .none) := pd_c pe_non fun _ => .non
theorem pd_str {x j pos} : PED X p E (.Constant (.str x) j pos) (eC (.str x)) := pd_c pe_str fun _ => .str x
theorem pd_var {i : Nat} (h : PE X e (tVar i)) : PED X p E e (eVar i) :=
  pe_imp h fun σ H Q ⟨F, ρ, s, pre, post⟩ => by
    unfold eVar at post
    cases q : ρ[i]? with
    | none => rw [q] at post; exact post.elim
    | some o =>
      cases o with
      | none => rw [q] at post; exact post.elim
      | some d =>
        rw [q] at post
        obtain ⟨v, h1, h2⟩ := pre.rd i d q
        exact ⟨v, h1, Post.okI post pre.ex pre.sr h2⟩
/-- an operation by data -/
def OpD (G : GC) (r : R2) (op : D → D → Option D) : Prop := ∀ (F H : Hp) (x y : V) (dx dy z : D) (Q : VK), Ex F H → DD G F x dx → DD G F y dy → op dx dy = some z →
  (∀ F' v H', Ext G none F H F' H' → DD G F' v z → Q v H') → r x y H Q
def UnD (G : GC) (r : V → Hp → VK → Prop) (op : D → Option D) : Prop := ∀ (F H : Hp) (x : V) (dx z : D) (Q : VK), Ex F H → DD G F x dx → op dx = some z →
  (∀ F' v H', Ext G none F H F' H' → DD G F' v z → Q v H') → r x H Q
def CallD (G : GC) (r : List V → Hp → VK → Prop) (op : List D → Option D) : Prop := ∀ (F H : Hp) (x : List V) (dx : List D) (z : D) (Q : VK), Ex F H → DDs G F x dx → op dx = some z →
  (∀ F' v H', Ext G none F H F' H' → DD G F' v z → Q v H') → r x H Q
theorem ofO_post {α β : Type} {G : GC} {F H : Hp} {o : Option α} {s : List D} {rel : Hp → Hp → β → α → Prop} {Q : β → Hp → Prop} (h : Post G p E F H (ofO o s) rel Q) : ∃ z, o = some z ∧ Post G p E F H (.ok (z, s)) rel Q := by
  cases o with
  | none => exact h.elim
  | some z => exact ⟨z, rfl, h⟩
theorem post_end {β : Type} {α : Type} {G : GC} {F H : Hp} {d : α} {s : List D} {rel : Hp → Hp → β → α → Prop} {Q : β → Hp → Prop} (h : Post G p E F H (.ok (d, s)) rel Q) (r : SRel G p F H s) : ∀ F' v H', Ext G none F H F' H' → rel F' H' v d → Q v H' :=
  fun F' v H' e q => h F' v H' e.weak (r.ext e) q
theorem tOp_of {r : R2} {op : D → D → Option D} {G : GC} (ho : OpD G r op) {σ : L2.St} {H : Hp} {Q : VK} (h : tD G p E (eOp op fa fb) σ H Q) : tOp r (tD G p E fa) (tD G p E fb) σ H Q := by
  obtain ⟨F, ρ, s, pre, post⟩ := h
  refine ⟨F, ρ, s, pre, Post.bind post fun d1 s1 F1 x H1 e1 x1 r1 q1 post1 => ?_⟩
  refine ⟨F1, ρ, s1, pre.next x1 r1, Post.bind post1 fun d2 s2 F2 y H2 e2 x2 r2 q2 post2 => ?_⟩
  obtain ⟨z, ez, post3⟩ := ofO_post post2
  exact ho F2 H2 x y d1 d2 z Q x2.fh (q1.ex x2.ff) q2 ez (post_end post3 r2)
theorem pd_op {o : Operator} {r : R2} {op : D → D → Option D} (hr : OpR X (binaryOp o) r) (ho : OpD X.gc r op) (h1 : PED X p E a fa) (h2 : PED X p E b fb) : PED X p E (.BinOp a o b pos) (eOp op fa fb) :=
  pe_imp (pe_op hr h1 h2) fun _ _ _ h => tOp_of ho h
theorem pd_un {o : UnaryOp} {r : V → Hp → VK → Prop} {op : D → Option D} (hr : UnR X (unaryOp o) r) (ho : UnD X.gc r op) (h1 : PED X p E a fa) : PED X p E (.UnaryOp o a pos) (eUn op fa) :=
  pe_imp (pe_un hr h1) fun σ H Q ⟨F, ρ, s, pre, post⟩ => ⟨F, ρ, s, pre, Post.bind post fun d1 s1 F1 x H1 e1 x1 r1 q1 post1 => by
    obtain ⟨z, ez, post3⟩ := ofO_post post1
    exact ho F1 H1 x d1 z Q x1.fh q1 ez (post_end post3 r1)⟩
theorem pd_cmp {o : CmpOp} {r : R2} {op : D → D → Option D} (hr : OpR X (compareOp o) r) (ho : OpD X.gc r op) (h1 : PED X p E a fa) (h2 : PED X p E b fb) (hm : behindInMarks o b = false) : PED X p E (.Compare a [o] [b] pos) (eOp op fa fb) :=
  pe_imp (pe_cmpR hr h1 h2 hm) fun _ _ _ h => tOp_of ho h
theorem tTest_of {G : GC} {t : TE} {f : EM} (h : ∀ σ H Q, tD G p E f σ H Q → t σ H Q) {σ : L2.St} {H : Hp} {Q : Bool → Hp → Prop} (q : tDB G p E (tE f) σ H Q) : t σ H fun x H' => ∃ k, x = .bl k ∧ Q k H' := by
  obtain ⟨F, ρ, s, pre, post⟩ := q
  refine h σ H _ ⟨F, ρ, s, pre, Post.bind post fun d1 s1 F1 x H1 e1 x1 r1 q1 post1 => ?_⟩
  obtain ⟨z, ez, post3⟩ := ofO_post post1
  have e := isB_some ez
  subst e
  exact ⟨z, q1.inv_bool, Post.okI post3 x1.fh r1 rfl⟩
theorem ptd_cmp {o : CmpOp} {r : R2} {op : D → D → Option D} (hr : OpR X (compareOp o) r) (ho : OpD X.gc r op) (h1 : PED X p E a fa) (h2 : PED X p E b fb) (hm : behindInMarks o b = false) : PTD X p E (.Compare a [o] [b] pos) (tE (eOp op fa fb)) :=
  pt_imp (pt_cmpR hr h1 h2 hm) fun _ _ _ h => tTest_of (fun _ _ _ q => tOp_of ho q) h
theorem ptd_val (h : PED X p E e f) (he : ∀ whole, isTrue e X.env whole = (do let v ← whole; standAt e.pos; holding [v] (truthy v)) := by intro _; rfl) : PTD X p E e (tE f) :=
  pt_imp (pt_val h he) fun _ _ _ h => tTest_of (fun _ _ _ q => q) h
theorem tChain_of {r r' : R2} {op op' : D → D → Option D} {G : GC} (ho : OpD G r op) (ho' : OpD G r' op') {σ : L2.St} {H : Hp} {Q : VK} (h : tD G p E (eChain op op' fa fb fc) σ H Q) : tChain r r' (tD G p E fa) (tD G p E fb) (tD G p E fc) σ H Q := by
  obtain ⟨F, ρ, s, pre, post⟩ := h
  refine ⟨F, ρ, s, pre, Post.bind post fun d1 s1 F1 x H1 e1 x1 r1 q1 post1 => ?_⟩
  refine ⟨F1, ρ, s1, pre.next x1 r1, Post.bind post1 fun d2 s2 F2 y H2 e2 x2 r2 q2 post2 => ?_⟩
  cases eo : op d1 d2 with
  | none => rw [eo] at post2; exact post2.elim
  | some z =>
    rw [eo] at post2
    have post2' : Post G p E F2 H2 ((ofO (isB z) s2).bind fun l => if l.1 = true then (fc ρ l.2).bind fun z => ofO (op' d2 z.1) z.2 else .ok (.bool false, l.2)) (fun F' _ v d => DD G F' v d) Q := post2
    cases ek : isB z with
    | none => rw [ek] at post2'; exact post2'.elim
    | some k =>
      rw [ek] at post2'
      have ez := isB_some ek
      subst ez
      refine ho F2 H2 x y d1 d2 _ _ x2.fh (q1.ex x2.ff) q2 eo fun F3 v H3 x3 q3 => ⟨k, q3.inv_bool, ?_⟩
      have r3 : SRel G p F3 H3 s2 := r2.ext x3
      cases k with
      | false =>
        have post3 : Post G p E F2 H2 (.ok ((.bool false : D), s2)) (fun F' _ v d => DD G F' v d) Q := post2'
        exact post3 F3 _ H3 x3.weak r3 (.bl false)
      | true =>
        have post3 : Post G p E F2 H2 ((fc ρ s2).bind fun z => ofO (op' d2 z.1) z.2) (fun F' _ v d => DD G F' v d) Q := post2'
        have post4 : Post G p E F3 H3 ((fc ρ s2).bind fun z => ofO (op' d2 z.1) z.2) (fun F' _ v d => DD G F' v d) Q := by
          cases ec : ((fc ρ s2).bind fun z => ofO (op' d2 z.1) z.2) with
          | un => rw [ec] at post3; exact post3
          | ex e => rw [ec] at post3; exact fun F' H' x' => post3 F' H' (x3.weak.trans x')
          | ok w => rw [ec] at post3; exact fun F' v H' x' => post3 F' v H' (x3.weak.trans x')
        show tD G p E fc σ H3 _
        refine ⟨F3, ρ, s2, ((pre.next x1 r1).next x2 r2).next x3.weak r3, Post.bind post4 fun d4 s4 F4 w H4 e4 x4 r4 q4 post5 => ?_⟩
        obtain ⟨z, ez, post6⟩ := ofO_post post5
        exact ho' F4 H4 y w d2 d4 z Q x4.fh ((q2.ex x3.ff).ex x4.ff) q4 ez (post_end post6 r4)
end
end DL
end

section
set_option Elab.async false
set_option linter.all false
set_option maxRecDepth 100000
set_option maxHeartbeats 4000000
/-! The data layer, part 3: bools, ifs, arguments, displays, calls. -/
namespace DL
open PySem PySem.Spec PyProof.Rows L2
/-- a display's length is within the line -/
def eTupS (a : AM) : EM := fun ρ s => (a ρ s).bind fun z => ofO (if small z.1.length then some (.tuple z.1) else none) z.2
def eLstS (a : AM) : EM := fun ρ s => (a ρ s).bind fun z => ofO (if small z.1.length then some (.list z.1) else none) z.2
section
variable {X : Cx} {E : XK} {p : Option PQ} {e a b c : Expr} {es rest : List Expr} {f fa fb fc : EM} {g ga gb : TM} {h ha : AM} {pos : Pos}
theorem pd_chain {o o' : CmpOp} {r r' : R2} {op op' : D → D → Option D} (hr : OpR X (compareOp o) r) (hr' : OpR X (compareOp o') r') (ho : OpD X.gc r op) (ho' : OpD X.gc r' op') (h1 : PED X p E a fa) (h2 : PED X p E b fb) (h3 : PED X p E c fc)
    (hm : lastMarks [o, o'] [b, c] = false := by with_unfolding_all rfl) : PED X p E (.Compare a [o, o'] [b, c] pos) (eChain op op' fa fb fc) :=
  pe_imp (pe_chain hr hr' h1 h2 h3 hm) fun _ _ _ q => tChain_of ho ho' q
theorem ptd_chain {o o' : CmpOp} {r r' : R2} {op op' : D → D → Option D} (hr : OpR X (compareOp o) r) (hr' : OpR X (compareOp o') r') (ho : OpD X.gc r op) (ho' : OpD X.gc r' op') (h1 : PED X p E a fa) (h2 : PED X p E b fb) (h3 : PED X p E c fc)
    (hm : lastMarks [o, o'] [b, c] = false := by with_unfolding_all rfl) : PTD X p E (.Compare a [o, o'] [b, c] pos) (tE (eChain op op' fa fb fc)) :=
  pt_imp (pt_chain hr hr' h1 h2 h3 hm) fun _ _ _ q => tTest_of (fun _ _ _ q => tChain_of ho ho' q) q
theorem ptd_not (h : PTD X p E a g) : PTD X p E (.UnaryOp .Not a pos) (tNo g) :=
  pt_imp (pt_not h) fun σ H Q ⟨F, ρ, s, pre, post⟩ => ⟨F, ρ, s, pre, Post.bind post fun d1 s1 F1 x H1 e1 x1 r1 q1 post1 => by
    have q1' : x = d1 := q1
    subst q1'
    exact Post.okI post1 x1.fh r1 rfl⟩
theorem pwd_and1 (h : PTD X p E a g) : PWD X p E (.BoolOp .And [a] pos) g := pw_and1 h
theorem pwd_or1 (h : PTD X p E a g) : PWD X p E (.BoolOp .Or [a] pos) g := pw_or1 h
theorem pwd_and (h1 : PTD X p E a ga) (h2 : PWD X p E (.BoolOp .And (b :: rest) pos) gb) : PWD X p E (.BoolOp .And (a :: b :: rest) pos) (tAn ga gb) :=
  pw_imp (pw_and h1 h2) fun σ H Q ⟨F, ρ, s, pre, post⟩ => ⟨F, ρ, s, pre, Post.bind post fun d1 s1 F1 x H1 e1 x1 r1 q1 post1 => by
    have q1' : x = d1 := q1
    subst q1'
    cases x with
    | true => exact iteT ⟨F1, ρ, s1, pre.next x1 r1, post1⟩
    | false => exact iteF (Post.okI (show Post X.gc p E F1 H1 (.ok (false, s1)) relB Q from post1) x1.fh r1 rfl)⟩
theorem pwd_or (h1 : PTD X p E a ga) (h2 : PWD X p E (.BoolOp .Or (b :: rest) pos) gb) : PWD X p E (.BoolOp .Or (a :: b :: rest) pos) (tOrr ga gb) :=
  pw_imp (pw_or h1 h2) fun σ H Q ⟨F, ρ, s, pre, post⟩ => ⟨F, ρ, s, pre, Post.bind post fun d1 s1 F1 x H1 e1 x1 r1 q1 post1 => by
    have q1' : x = d1 := q1
    subst q1'
    cases x with
    | false => exact iteF ⟨F1, ρ, s1, pre.next x1 r1, post1⟩
    | true => exact iteT (Post.okI (show Post X.gc p E F1 H1 (.ok (true, s1)) relB Q from post1) x1.fh r1 rfl)⟩
theorem ptd_w (h : PWD X p E e g) : PTD X p E e g := PW.pt h
theorem pd_one {o : BoolOp} (h : PED X p E a f) : PED X p E (.BoolOp o [a] pos) f := pe_one h
/-- the first operand's bool, then the rest -/
theorem boolV {G : GC} {σ : L2.St} {H : Hp} {Q : VK} {k : Bool × List D → R (D × List D)} {T : Bool → Hp → Prop} {F : Hp} {ρ : Rho} {s : List D} (pre : Pre G p F H σ ρ s) (post : Post G p E F H ((fa ρ s).bind fun z => (ofO (isB z.1) z.2).bind k) (fun F' _ v d => DD G F' v d) Q)
    (kk : ∀ c s1 F1 H1, Pre G p F1 H1 σ ρ s1 → Post G p E F1 H1 (k (c, s1)) (fun F' _ v d => DD G F' v d) Q → T c H1) : tD G p E fa σ H fun x H1 => ∃ c, x = .bl c ∧ T c H1 :=
  ⟨F, ρ, s, pre, Post.bind post fun d1 s1 F1 x H1 e1 x1 r1 q1 post1 => by
    cases ek : isB d1 with
    | none => simp only [ek] at post1; exact post1.elim
    | some c =>
      simp only [ek] at post1
      have ez := isB_some ek
      subst ez
      exact ⟨c, q1.inv_bool, kk c s1 F1 H1 (pre.next x1 r1) post1⟩⟩
theorem pd_and (h1 : PED X p E a fa) (h2 : PED X p E (.BoolOp .And (b :: rest) pos) fb) : PED X p E (.BoolOp .And (a :: b :: rest) pos) (eAnd fa fb) :=
  pe_imp (pe_and h1 h2) fun σ H Q ⟨F, ρ, s, pre, post⟩ => boolV pre post fun c s1 F1 H1 pre1 post1 => by
    cases c with
    | true => exact iteT ⟨F1, ρ, s1, pre1, post1⟩
    | false => exact iteF (Post.okI (show Post X.gc p E F1 H1 (.ok ((.bool false : D), s1)) _ Q from post1) pre1.ex pre1.sr (.bl false))
theorem pd_or (h1 : PED X p E a fa) (h2 : PED X p E (.BoolOp .Or (b :: rest) pos) fb) : PED X p E (.BoolOp .Or (a :: b :: rest) pos) (eOr fa fb) :=
  pe_imp (pe_or h1 h2) fun σ H Q ⟨F, ρ, s, pre, post⟩ => boolV pre post fun c s1 F1 H1 pre1 post1 => by
    cases c with
    | false => exact iteF ⟨F1, ρ, s1, pre1, post1⟩
    | true => exact iteT (Post.okI (show Post X.gc p E F1 H1 (.ok ((.bool true : D), s1)) _ Q from post1) pre1.ex pre1.sr (.bl true))
theorem pd_not (h1 : PED X p E a fa) : PED X p E (.UnaryOp .Not a pos) (eNot fa) :=
  pe_imp (pe_not h1) fun σ H Q ⟨F, ρ, s, pre, post⟩ => boolV pre post fun c s1 F1 H1 pre1 post1 =>
    Post.okI (show Post X.gc p E F1 H1 (.ok ((.bool (!c) : D), s1)) _ Q from post1) pre1.ex pre1.sr (.bl (!c))
theorem pd_if (h1 : PTD X p E c g) (h2 : PED X p E a fa) (h3 : PED X p E b fb) : PED X p E (.IfExp c a b pos) (eIf g fa fb) :=
  pe_imp (pe_ifExp h1 h2 h3) fun σ H Q ⟨F, ρ, s, pre, post⟩ => ⟨F, ρ, s, pre, Post.bind post fun d1 s1 F1 x H1 e1 x1 r1 q1 post1 => by
    have q1' : x = d1 := q1
    subst q1'
    cases x with
    | true => exact iteT ⟨F1, ρ, s1, pre.next x1 r1, post1⟩
    | false => exact iteF ⟨F1, ρ, s1, pre.next x1 r1, post1⟩⟩
theorem pad_nil : PAD X p E [] aNil :=
  pa_imp pa_nil fun σ H Q ⟨F, ρ, s, pre, post⟩ => Post.okI (show Post X.gc p E F H (.ok (([] : List D), s)) _ Q from post) pre.ex pre.sr .nil
theorem pad_cons (h1 : PED X p E e f) (h2 : PAD X p E es h) (hs : starEach (e :: es) X.env = (false, eval e X.env) :: starEach es X.env := by rfl) : PAD X p E (e :: es) (aCons f h) :=
  pa_imp (pa_cons h1 h2 hs) fun σ H Q ⟨F, ρ, s, pre, post⟩ => ⟨F, ρ, s, pre, Post.bind post fun d1 s1 F1 x H1 e1 x1 r1 q1 post1 =>
    ⟨F1, ρ, s1, pre.next x1 r1, Post.bind post1 fun d2 s2 F2 xs H2 e2 x2 r2 q2 post2 => Post.okI (show Post X.gc p E F2 H2 (.ok (d1 :: d2, s2)) _ Q from post2) x2.fh r2 (.cons (q1.ex x2.ff) q2)⟩⟩
theorem ifSome {α : Type} {c : Bool} {a z : α} (h : (if c = true then some a else none) = some z) : c = true ∧ a = z := by
  cases c with
  | true => exact ⟨rfl, Option.some.inj (by simpa using h)⟩
  | false => simp at h
theorem pd_tup {x1} (h1 : PAD X p E es h) : PED X p E (.Tuple es x1 pos) (eTupS h) :=
  pe_imp (pe_tup h1) fun σ H Q ⟨F, ρ, s, pre, post⟩ => ⟨F, ρ, s, pre, Post.bind post fun d1 s1 F1 xs H1 e1 x1 r1 q1 post1 => by
    obtain ⟨z, ez, post2⟩ := ofO_post post1
    obtain ⟨hs, rfl⟩ := ifSome ez
    refine ⟨Nat.le_of_lt (by rw [q1.len]; exact small_line hs), fun q hq => ?_⟩
    exact post_end post2 r1 _ _ _ (Ext.new x1.fh hq) (.tup (SqT.of upd_same) (q1.ex (Ext.new (o := .tup xs) x1.fh hq (G := X.gc) (q := none)).ff))⟩
theorem pd_lst (h1 : PAD X p E es h) : PED X p E (.List es pos) (eLstS h) :=
  pe_imp (pe_lst h1) fun σ H Q ⟨F, ρ, s, pre, post⟩ => ⟨F, ρ, s, pre, Post.bind post fun d1 s1 F1 xs H1 e1 x1 r1 q1 post1 => by
    obtain ⟨z, ez, post2⟩ := ofO_post post1
    obtain ⟨hs, rfl⟩ := ifSome ez
    refine ⟨Nat.le_of_lt (by rw [q1.len]; exact small_line hs), fun q hq => ?_⟩
    exact post_end post2 r1 _ _ _ (Ext.new x1.fh hq) (.lst (SqL.of upd_same) (q1.ex (Ext.new (o := .lst xs) x1.fh hq (G := X.gc) (q := none)).ff))⟩

/-! ### calls -/
theorem tCB_of {r : List V → Hp → VK → Prop} {op : List D → Option D} {G : GC} (ho : CallD G r op) {σ : L2.St} {H : Hp} {Q : VK} (q : tD G p E (eCB op h) σ H Q) : tCB r (tDA G p E h) σ H Q := by
  obtain ⟨F, ρ, s, pre, post⟩ := q
  refine ⟨F, ρ, s, pre, Post.bind post fun d1 s1 F1 xs H1 e1 x1 r1 q1 post1 => ?_⟩
  obtain ⟨z, ez, post2⟩ := ofO_post post1
  exact ho F1 H1 xs d1 z Q x1.fh q1 ez (post_end post2 r1)
theorem pd_callB {x : Str} {id : String} {q : Pos} {r : List V → Hp → VK → Prop} {op : List D → Option D} (hc : CallR X (.builtin id) r) (ho : CallD X.gc r op) (hg : Gl X x) (hm : X.mg x = none) (hv : bootBuiltins x = some (.builtin id)) (h1 : PAD X p E (e :: es) h) (hn : x ≠ "__name__" := by decide) (hdb : (x == ("__debug__" : Str)) = false := by decide)
    (he : starEach (e :: es) X.env = (false, eval e X.env) :: starEach es X.env := by rfl) (hpl : (backTo pos (starEach es X.env)).any (·.1) = false := by rfl) : PED X p E (.Call (.Name x q) (e :: es) [] pos) (eCB op h) :=
  pe_imp (pe_callB hc hg hm hv h1 hn hdb he hpl) fun _ _ _ q => tCB_of ho q
theorem pd_callTy {x : Str} {T : String} {q : Pos} {r : List V → Hp → VK → Prop} {op : List D → Option D} (hc : CallR X (.type T) r) (ho : CallD X.gc r op) (hg : Gl X x) (hm : X.mg x = none) (hv : bootBuiltins x = some (.type T)) (h1 : PAD X p E (e :: es) h) (hn : x ≠ "__name__" := by decide) (hdb : (x == ("__debug__" : Str)) = false := by decide)
    (he : starEach (e :: es) X.env = (false, eval e X.env) :: starEach es X.env := by rfl) (hpl : (backTo pos (starEach es X.env)).any (·.1) = false := by rfl) : PED X p E (.Call (.Name x q) (e :: es) [] pos) (eCB op h) :=
  pe_imp (pe_callTy hc hg hm hv h1 hn hdb he hpl) fun _ _ _ q => tCB_of ho q
/-- a def's outcome by data, and what is wanted of it -/
def PostF (G : GC) (E : XK) (F H : Hp) (r : R D) (Q : VK) : Prop := match r with
  | .ok d => ∀ F' v H', Ext G none F H F' H' → DD G F' v d → Q v H'
  | .ex e => ∀ F' H', Ext G none F H F' H' → ExW G E e F' H'
  | .un => False
/-- the promise of a def that is a function of data -/
def spD (G : GC) (n : Nat) (m : List D → R D) : Sp := fun vs H Q E => ∃ F ds, Ex F H ∧ TbF G F H ∧ vs.length = n ∧ DDs G F vs ds ∧ PostF G E F H (m ds) Q
theorem tCall_of {m : List D → R D} {n : Nat} {G : GC} {σ : L2.St} {H : Hp} {Q : VK} (hn : ∀ ρ s ds s', h ρ s = .ok (ds, s') → ds.length = n) (q : tD G p E (eCall m h) σ H Q) : tCall (spD G n m) [] E (tDA G p E h) σ H Q := by
  obtain ⟨F, ρ, s, pre, post⟩ := q
  refine ⟨F, ρ, s, pre, Post.bind post fun d1 s1 F1 xs H1 e1 x1 r1 q1 post1 => ?_⟩
  refine ⟨F1, d1, x1.fh, r1.1, by rw [List.append_nil, q1.len]; exact hn _ _ _ _ e1, by rw [List.append_nil]; exact q1, ?_⟩
  cases em : m d1 with
  | un => simp only [em] at post1; exact post1
  | ex e => simp only [em] at post1; exact fun F' H' x => post1 F' H' x.weak
  | ok d => simp only [em] at post1; exact post_end (show Post G p E F1 H1 (.ok (d, s1)) _ Q from post1) r1
theorem aNil_len (ρ : Rho) (s : List D) (ds s' : List D) (h : aNil ρ s = .ok (ds, s')) : ds.length = 0 := by
  cases h; rfl
theorem aCons_len {f : EM} {r : AM} {n : Nat} (hr : ∀ ρ s ds s', r ρ s = .ok (ds, s') → ds.length = n) (ρ : Rho) (s : List D) (ds s' : List D) (h : aCons f r ρ s = .ok (ds, s')) : ds.length = n + 1 := by
  unfold aCons at h
  cases e1 : f ρ s with
  | un => rw [e1] at h; cases h
  | ex e => rw [e1] at h; cases h
  | ok z =>
    rw [e1] at h
    simp only [bind_ok] at h
    cases e2 : r ρ z.2 with
    | un => rw [e2] at h; cases h
    | ex e => rw [e2] at h; cases h
    | ok y =>
      rw [e2] at h
      simp only [bind_ok] at h
      cases h
      rw [List.length_cons, hr _ _ y.1 y.2 e2]
/-- a call f(e, ..) of a def that is a function of data -/
theorem pd_call {x : Str} {q : Pos} {k n : Nat} {fa : Addr} {fd : FuncData} {ps : List Str} {m : List D → R D} (Fn : FnOk X.prog X.w X.K X.mg X.base (L2N.CX X.prog X.w) k fa fd ps (spD X.gc n m)) (hr : Room k X.A) (hg : Gl X x) (hm : X.mg x = some (.ref fa)) (hk : PySem.W.keepIn X.K (.ref fa) = true)
    (hb : Binds X.K fd ps []) (hx : Passes (L2N.CX X.prog X.w) X E) (h1 : PAD X p E (e :: es) h) (hl : ∀ ρ s ds s', h ρ s = .ok (ds, s') → ds.length = n)
    (hdb : (x == ("__debug__" : Str)) = false := by decide) (he : starEach (e :: es) X.env = (false, eval e X.env) :: starEach es X.env := by rfl) (hpl : (backTo pos (starEach es X.env)).any (·.1) = false := by rfl) : PED X p E (.Call (.Name x q) (e :: es) [] pos) (eCall m h) :=
  pe_imp (pe_call Fn hr hg hm hk hb .nil hx h1 hdb he hpl) fun _ _ _ q => tCall_of hl q
end
end DL
end

section
set_option Elab.async false
set_option linter.all false
set_option maxRecDepth 100000
set_option maxHeartbeats 4000000
/-! The data layer, part 4: operators by data. -/
namespace DL
open PySem PySem.Spec PyProof.Rows L2
/-- bounds within which numbers are multiplied, divided: two powers -/
def big : Nat := 2 ^ 4000
def okN (i : Int) : Bool := decide (i.natAbs < big)
theorem okN_log {i : Int} (h : okN i = true) : i.natAbs.log2 < 4001 := Nat.lt_succ_of_lt (PySem.Flt.log2_lt_of (by decide) (of_decide_eq_true h))
def addD : D → D → Option D
  | .int i, .int j => some (.int (i + j))
  | .str x, .str y => if small (x.length + y.length) then some (.str (x ++ y)) else none
  | .list xs, .list ys => if small (xs.length + ys.length) then some (.list (xs ++ ys)) else none
  | .tuple xs, .tuple ys => if small (xs.length + ys.length) then some (.tuple (xs ++ ys)) else none
  | _, _ => none
def subD : D → D → Option D
  | .int i, .int j => some (.int (i - j))
  | _, _ => none
def mulD : D → D → Option D
  | .int i, .int j => if okN i && okN j then some (.int (i * j)) else none
  | .tuple xs, .int k => if decide (xs ≠ []) && (decide (2 ≤ k) && (decide (k ≤ 1000) && decide (xs.length ≤ 1000))) then some (.tuple (List.replicate k.toNat xs).flatten) else none
  | _, _ => none
def fdivD : D → D → Option D
  | .int i, .int j => if decide (0 < j) && okN j then some (.int (i / j)) else if decide (j < 0) && decide (j.natAbs < 1073741824) then some (.int (i.fdiv j)) else none
  | _, _ => none
def modD : D → D → Option D
  | .int i, .int j => if decide (0 < j) then some (.int (i % j)) else if decide (j < 0) then some (.int (i.fmod j)) else none
  | _, _ => none
def powD : D → D → Option D
  | .int i, .int j => if decide (0 ≤ j) && (decide (j ≤ 1000000) && decide (i.natAbs < 2 ^ 64)) then some (.int (i ^ j.toNat)) else none
  | _, _ => none
def negD : D → Option D
  | .int i => some (.int (-i))
  | _ => none
def cmpD (c : Int → Int → Bool) : D → D → Option D
  | .int i, .int j => some (.bool (c i j))
  | _, _ => none
abbrev ltD := cmpD fun i j => decide (i < j)
abbrev leD := cmpD fun i j => decide (i ≤ j)
abbrev gtD := cmpD fun i j => decide (j < i)
abbrev geD := cmpD fun i j => decide (j ≤ i)
def shal (x y : D) : Bool := decide (x.depth ≤ 64) || decide (y.depth ≤ 64)
def pln (x y : D) : Bool := shal x y && (x.plain && y.plain)
def eqD (x y : D) : Option D := if pln x y then some (.bool (PyData.eqv x y)) else none
def neD (x y : D) : Option D := if pln x y then some (.bool (!PyData.eqv x y)) else none
def isNone : D → Bool
  | .none => true
  | _ => false
def isD (x y : D) : Option D := if isNone y then some (.bool (isNone x)) else none
def isntD (x y : D) : Option D := if isNone y then some (.bool (!isNone x)) else none
def itemsOf : D → Option (List D)
  | .list xs => some xs
  | .tuple xs => some xs
  | _ => none
def inD (x y : D) : Option D := (itemsOf y).bind fun ys => if pln x y then some (.bool (ys.any fun z => PyData.eqv z x)) else none
def notInD (x y : D) : Option D := (itemsOf y).bind fun ys => if pln x y then some (.bool (!ys.any fun z => PyData.eqv z x)) else none
def ixD : D → D → Option D
  | .list xs, .int i => atI xs i
  | .tuple xs, .int i => atI xs i
  | .str z, .int i => if small z.length then (atI z.cps.toList i).map fun c => .str ⟨#[c]⟩ else none
  | _, _ => none
def lenD : List D → Option D
  | [.list xs] => some (.int xs.length)
  | [.tuple xs] => some (.int xs.length)
  | [.str x] => if small x.length then some (.int x.length) else none
  | _ => none
def boolsOf : List D → Option (List Bool)
  | [] => some []
  | .bool b :: r => (boolsOf r).map (b :: ·)
  | _ => none
def intsOf : List D → Option (List Int)
  | [] => some []
  | .int b :: r => (intsOf r).map (b :: ·)
  | _ => none
def allD : List D → Option D
  | [.list xs] => (boolsOf xs).map fun bs => .bool (bs.all id)
  | _ => none
def anyD : List D → Option D
  | [.list xs] => (boolsOf xs).map fun bs => .bool (bs.any id)
  | _ => none
def maxI (x : Int) (r : List Int) : Int := r.foldl (fun a b => if a < b then b else a) x
def minI (x : Int) (r : List Int) : Int := r.foldl (fun a b => if b < a then b else a) x
def maxD : List D → Option D
  | [.list xs] => (intsOf xs).bind fun
    | [] => none
    | x :: r => some (.int (maxI x r))
  | [.int i, .int j] => some (.int (if j > i then j else i))
  | _ => none
def minD : List D → Option D
  | [.list xs] => (intsOf xs).bind fun
    | [] => none
    | x :: r => some (.int (minI x r))
  | [.int i, .int j] => some (.int (if j < i then j else i))
  | _ => none
def absD : List D → Option D
  | [.int i] => some (.int (if i < 0 then -i else i))
  | _ => none
def intD : List D → Option D
  | [.int i] => some (.int i)
  | [.bool k] => some (.int (if k then 1 else 0))
  | _ => none
def strD : List D → Option D
  | [.int i] => if decide (i.natAbs < 2 ^ 1900) then some (.str (toString i)) else none
  | [.str x] => some (.str x)
  | _ => none
def tupleD : List D → Option D
  | [.list xs] => some (.tuple xs)
  | [.tuple xs] => some (.tuple xs)
  | _ => none
def listD : List D → Option D
  | [.list xs] => some (.list xs)
  | [.tuple xs] => some (.list xs)
  | _ => none

section
variable {G : GC}
abbrev ExtN (G : GC) := Ext G none
/-- the end of a rule that makes nothing -/
theorem stays {F H : Hp} {Q : VK} {v : V} {z : D} (e : Ex F H) (k : ∀ F' v H', Ext G none F H F' H' → DD G F' v z → Q v H') (h : DD G F v z) : Q v H := k F v H (Ext.refl e) h
theorem newT {F H : Hp} {Q : VK} {vs : List V} {ds : List D} (e : Ex F H) (k : ∀ F' v H', Ext G none F H F' H' → DD G F' v (.tuple ds) → Q v H') (h : DDs G F vs ds) : ∀ p, H p = none → Q (.ref p) (upd H p (.tup vs)) := fun p hp =>
  k _ _ _ (Ext.new (G := G) e hp) (.tup (SqT.of upd_same) (h.ex (Ext.new (G := G) (q := none) (o := .tup vs) e hp).ff))
theorem newL {F H : Hp} {Q : VK} {vs : List V} {ds : List D} (e : Ex F H) (k : ∀ F' v H', Ext G none F H F' H' → DD G F' v (.list ds) → Q v H') (h : DDs G F vs ds) : ∀ p, H p = none → Q (.ref p) (upd H p (.lst vs)) := fun p hp =>
  k _ _ _ (Ext.new (G := G) e hp) (.lst (SqL.of upd_same) (h.ex (Ext.new (G := G) (q := none) (o := .lst vs) e hp).ff))
/-- two lists that are read -/
def rCatL (K : PySem.W.Frag) : R2 := fun x y H Q => ∃ l b xs zs, x = .ref l ∧ y = .ref b ∧ SqL K H l xs ∧ SqL K H b zs ∧ xs.length + zs.length ≤ sizeLine ∧ ∀ p, H p = none → Q (.ref p) (upd H p (.lst (xs ++ zs)))
theorem op_catL {X : Cx} : OpR X (binaryOp .Add) (rCatL X.K) := fun pins s σ H x y v u Q I rx ry ⟨l, b, xs, zs, ex, ey, hl, hb, hz, q⟩ => by
  subst ex ey
  obtain rfl : v = Value.ref l := rx
  obtain rfl : u = Value.ref b := ry
  obtain ⟨its, r1, p1, _⟩ := I.list hl
  obtain ⟨jts, r2, p2, _⟩ := I.list hb
  obtain ⟨⟨c1, d1, da1, s1⟩, g1, g2, n1, g3⟩ := p1.isList
  obtain ⟨⟨c2, d2, da2, s2⟩, k1, k2, n2, k3⟩ := p2.isList
  simp only at g2 g3 k2 k3
  subst g2 g3 k2 k3
  have lz : its.length + jts.length ≤ sizeLine := by rw [← r1.length, ← r2.length]; exact hz
  refine concat_meets ⟨_, g1, rfl⟩ ⟨_, k1, rfl⟩ noFill_list_add seq_list_add PySem.F.slot_list_add PySem.F.entry_list_add (PySem.F.args_list_add_2 _ _) (list_addW l b its.toArray jts.toArray n1 n2 d1 d2 s1 s2 (by simpa using lz)) ⟨g1, k1, ?_⟩
  have e : its.toArray ++ jts.toArray = (its ++ jts).toArray := by simp
  rw [e]
  exact ⟨.ref _, _, I.lnew (t' := s.toks) (r1.append r2) (by rw [List.length_append]; exact hz), rfl, q _ I.fresh⟩
def rAddU (K : PySem.W.Frag) : R2 := fun x y H Q => rI0 (fun i j => .int (i + j)) x y H Q ∨ ((∃ i j, x = .str i ∧ y = .str j ∧ i.length + j.length ≤ sizeLine ∧ Q (.str (i ++ j)) H) ∨ (rCatL K x y H Q ∨ rCatA K x y H Q))
theorem or_addU {X : Cx} : OpR X (binaryOp .Add) (rAddU X.K) := op_add.or (op_add_str.or (op_catL.or op_catA))
theorem DDs.nil_iff {F : Hp} {vs : List V} {ds : List D} (h : DDs G F vs ds) : vs = [] ↔ ds = [] := by
  cases h with
  | nil => simp
  | cons _ _ => simp
theorem od_add : OpD G (rAddU G.K) addD := fun F H x y dx dy z Q e hx hy h k => by
  cases hx with
  | int i =>
    cases hy with
    | int j => cases h; exact .inl ⟨i, j, rfl, rfl, stays e k (.int _)⟩
    | _ => simp [addD] at h
  | str i =>
    cases hy with
    | str j =>
      obtain ⟨hs, rfl⟩ := ifSome h
      exact .inr (.inl ⟨i, j, rfl, rfl, Nat.le_of_lt (small_line hs), stays e k (.str _)⟩)
    | _ => simp [addD] at h
  | @lst a xs ds h1 h2 =>
    cases hy with
    | @lst b ys es h3 h4 =>
      obtain ⟨hs, rfl⟩ := ifSome h
      exact .inr (.inr (.inl ⟨a, b, xs, ys, rfl, rfl, ex_l e h1, ex_l e h3, by rw [h2.len, h4.len]; exact Nat.le_of_lt (small_line hs), newL e k (h2.app h4)⟩))
    | _ => simp [addD] at h
  | @tup a xs ds h1 h2 =>
    cases hy with
    | @tup b ys es h3 h4 =>
      obtain ⟨hs, rfl⟩ := ifSome h
      refine .inr (.inr (.inr ⟨a, b, xs, ys, rfl, rfl, ex_t e h1, ex_t e h3, by rw [h2.len, h4.len]; exact Nat.le_of_lt (small_line hs), fun z => ?_, fun _ z => ?_, fun _ _ => newT e k (h2.app h4)⟩))
      · have z' := h2.nil_iff.mp z
        subst z'
        exact stays e k (.tup h3 (by simpa using h4))
      · have z' := h4.nil_iff.mp z
        subst z'
        exact stays e k (.tup h1 (by simpa using h2))
    | _ => simp [addD] at h
  | _ => cases hy <;> simp [addD] at h
theorem od_int0 {g : Int → Int → Int} {op : D → D → Option D} (h0 : ∀ i j, op (.int i) (.int j) = some (.int (g i j))) (h1 : ∀ x y z, op x y = some z → ∃ i j, x = .int i ∧ y = .int j) : OpD G (rI0 fun i j => .int (g i j)) op := fun F H x y dx dy z Q e hx hy h k => by
  obtain ⟨i, j, rfl, rfl⟩ := h1 _ _ _ h
  rw [h0] at h
  cases h
  exact ⟨i, j, hx.inv_int, hy.inv_int, stays e k (.int _)⟩
theorem od_sub : OpD G (rI0 fun i j => .int (i - j)) subD := od_int0 (fun _ _ => rfl) fun x y z h => by
  cases x <;> cases y <;> simp [subD] at h
  exact ⟨_, _, rfl, rfl⟩
theorem band {a b : Bool} (h : (a && b) = true) : a = true ∧ b = true := Bool.and_eq_true_iff.mp h
theorem CMulW.of {i j : Int} (h1 : okN i = true) (h2 : okN j = true) : CMulW i j := by
  have a := okN_log h1
  have b := okN_log h2
  unfold CMulW
  omega
def rMulU (K : PySem.W.Frag) : R2 := fun x y H Q => rI CMulW (fun i j => .int (i * j)) x y H Q ∨ rRepT K x y H Q
theorem or_mulU {X : Cx} : OpR X (binaryOp .Mult) (rMulU X.K) := op_mulW.or op_repT
theorem DDs.rep {F : Hp} {vs : List V} {ds : List D} (h : DDs G F vs ds) : ∀ k : Nat, DDs G F (List.replicate k vs).flatten (List.replicate k ds).flatten
  | 0 => .nil
  | k + 1 => by
    rw [List.replicate_succ, List.replicate_succ, List.flatten_cons, List.flatten_cons]
    exact h.app (DDs.rep h k)
theorem od_mul : OpD G (rMulU G.K) mulD := fun F H x y dx dy z Q e hx hy h k => by
  cases hx with
  | int i =>
    cases hy with
    | int j =>
      obtain ⟨hs, rfl⟩ := ifSome h
      obtain ⟨h1, h2⟩ := band hs
      exact .inl ⟨i, j, rfl, rfl, CMulW.of h1 h2, stays e k (.int _)⟩
    | _ => simp [mulD] at h
  | @tup a xs ds h1 h2 =>
    cases hy with
    | int j =>
      obtain ⟨hs, rfl⟩ := ifSome h
      obtain ⟨q1, hs⟩ := band hs
      obtain ⟨q2, hs⟩ := band hs
      obtain ⟨q3, q4⟩ := band hs
      refine .inr ⟨a, j, xs, rfl, rfl, ex_t e h1, fun z => (of_decide_eq_true q1) (h2.nil_iff.mp z), of_decide_eq_true q2, of_decide_eq_true q3, by rw [h2.len]; exact of_decide_eq_true q4, newT e k (h2.rep _)⟩
    | _ => simp [mulD] at h
  | _ => cases hy <;> simp [mulD] at h
def rDivU : R2 := fun x y H Q => rI CDivW (fun i j => .int (i / j)) x y H Q ∨ rI CDivN (fun i j => .int (i.fdiv j)) x y H Q
theorem or_divU {X : Cx} : OpR X (binaryOp .FloorDiv) rDivU := op_fdivW.or op_fdivN
theorem ifTwo {c c' : Bool} {a a' z : D} (h : (if c = true then some a else if c' = true then some a' else none) = some z) : (c = true ∧ a = z) ∨ (c' = true ∧ a' = z) := by
  cases c with
  | true => exact .inl ⟨rfl, Option.some.inj (by simpa using h)⟩
  | false => exact .inr (ifSome (by simpa using h))
theorem od_fdiv : OpD G rDivU fdivD := fun F H x y dx dy z Q e hx hy h k => by
  cases hx with
  | int i =>
    cases hy with
    | int j =>
      rcases ifTwo h with ⟨hs, rfl⟩ | ⟨hs, rfl⟩
      · obtain ⟨h1, h2⟩ := band hs
        exact .inl ⟨i, j, rfl, rfl, ⟨of_decide_eq_true h1, Nat.lt_trans (okN_log h2) (by decide)⟩, stays e k (.int _)⟩
      · obtain ⟨h1, h2⟩ := band hs
        exact .inr ⟨i, j, rfl, rfl, ⟨Int.ne_of_lt (of_decide_eq_true h1), of_decide_eq_true h2⟩, stays e k (.int _)⟩
    | _ => simp [fdivD] at h
  | _ => cases hy <;> simp [fdivD] at h
def rModU : R2 := fun x y H Q => rI (fun _ j => 0 < j) (fun i j => .int (i % j)) x y H Q ∨ rI (fun _ j => j ≠ 0) (fun i j => .int (i.fmod j)) x y H Q
theorem or_modU {X : Cx} : OpR X (binaryOp .Mod) rModU := op_mod.or op_modN
theorem od_mod : OpD G rModU modD := fun F H x y dx dy z Q e hx hy h k => by
  cases hx with
  | int i =>
    cases hy with
    | int j =>
      rcases ifTwo h with ⟨hs, rfl⟩ | ⟨hs, rfl⟩
      · exact .inl ⟨i, j, rfl, rfl, of_decide_eq_true hs, stays e k (.int _)⟩
      · exact .inr ⟨i, j, rfl, rfl, Int.ne_of_lt (of_decide_eq_true hs), stays e k (.int _)⟩
    | _ => simp [modD] at h
  | _ => cases hy <;> simp [modD] at h
theorem od_pow : OpD G (rI CPow fun i j => .int (i ^ j.toNat)) powD := fun F H x y dx dy z Q e hx hy h k => by
  cases hx with
  | int i =>
    cases hy with
    | int j =>
      obtain ⟨hs, rfl⟩ := ifSome h
      obtain ⟨h1, hs⟩ := band hs
      obtain ⟨h2, h3⟩ := band hs
      exact ⟨i, j, rfl, rfl, ⟨of_decide_eq_true h1, of_decide_eq_true h2, of_decide_eq_true h3⟩, stays e k (.int _)⟩
    | _ => simp [powD] at h
  | _ => cases hy <;> simp [powD] at h
theorem ud_neg : UnD G (rU fun i => .int (-i)) negD := fun F H x dx z Q e hx h k => by
  cases hx with
  | int i => cases h; exact ⟨i, rfl, stays e k (.int _)⟩
  | _ => simp [negD] at h
theorem od_cmp {c : Int → Int → Bool} : OpD G (rI0 fun i j => .bl (c i j)) (cmpD c) := fun F H x y dx dy z Q e hx hy h k => by
  cases hx with
  | int i =>
    cases hy with
    | int j => cases h; exact ⟨i, j, rfl, rfl, stays e k (.bl _)⟩
    | _ => simp [cmpD] at h
  | _ => cases hy <;> simp [cmpD] at h
/-- == of data -/
def rEqP (G : GC) : R2 := fun x y H Q => ∃ d e, DD G H x d ∧ DD G H y e ∧ pln d e = true ∧ Q (.bl (PyData.eqv d e)) H
def rNeP (G : GC) : R2 := fun x y H Q => ∃ d e, DD G H x d ∧ DD G H y e ∧ pln d e = true ∧ Q (.bl (!PyData.eqv d e)) H
theorem shal_min {d e : D} {n : Nat} (h : shal d e = true) (hu : n + 64 < cLine) : n + min d.depth e.depth < cLine := by
  unfold shal at h
  rw [Bool.or_eq_true] at h
  have h1 := Nat.min_le_left d.depth e.depth
  have h2 := Nat.min_le_right d.depth e.depth
  rcases h with h | h
  · have := of_decide_eq_true h; omega
  · have := of_decide_eq_true h; omega
theorem or_eqP {X : Cx} (hu : X.A.units + 64 < cLine) : OpR X (compareOp .Eq) (rEqP X.gc) := by
  intro pins s σ H x y v u Q I rx ry h
  obtain ⟨d, e, hd, he, sp, q⟩ := h
  obtain ⟨sd, sp⟩ := band sp
  obtain ⟨pd, pe⟩ := band sp
  obtain ⟨as, r1⟩ := Dp.reads I d x v (hd.dp pd) rx
  obtain ⟨bs, r2⟩ := Dp.reads I e y u (he.dp pe) ry
  exact SeqAt.eq_plain r1 r2 pd pe (shal_min sd hu) ⟨.bl _, H, I, rfl, q⟩
theorem or_neP {X : Cx} (hu : X.A.units + 64 < cLine) : OpR X (compareOp .NotEq) (rNeP X.gc) := by
  intro pins s σ H x y v u Q I rx ry h
  obtain ⟨d, e, hd, he, sp, q⟩ := h
  obtain ⟨sd, sp⟩ := band sp
  obtain ⟨pd, pe⟩ := band sp
  obtain ⟨as, r1⟩ := Dp.reads I d x v (hd.dp pd) rx
  obtain ⟨bs, r2⟩ := Dp.reads I e y u (he.dp pe) ry
  exact SeqAt.ne_plain r1 r2 pd pe (shal_min sd hu) ⟨.bl _, H, I, rfl, q⟩
theorem od_eq : OpD G (rEqP G) eqD := fun F H x y dx dy z Q e hx hy h k => by
  obtain ⟨hs, rfl⟩ := ifSome h
  exact ⟨dx, dy, hx.ex e, hy.ex e, hs, stays e k (.bl _)⟩
theorem od_ne : OpD G (rNeP G) neD := fun F H x y dx dy z Q e hx hy h k => by
  obtain ⟨hs, rfl⟩ := ifSome h
  exact ⟨dx, dy, hx.ex e, hy.ex e, hs, stays e k (.bl _)⟩
theorem DD.isNon {H : Hp} {v : V} {d : D} (h : DD G H v d) : decide (v = .non) = isNone d := by
  cases h <;> simp [isNone]
theorem od_is : OpD G (fun x y H Q => y = .non ∧ Q (.bl (decide (x = .non))) H) isD := fun F H x y dx dy z Q e hx hy h k => by
  obtain ⟨hs, rfl⟩ := ifSome h
  have e1 := hy.isNon
  rw [hs] at e1
  exact ⟨of_decide_eq_true e1, by rw [hx.isNon]; exact stays e k (.bl _)⟩
theorem od_isnt : OpD G (fun x y H Q => y = .non ∧ Q (.bl (!decide (x = .non))) H) isntD := fun F H x y dx dy z Q e hx hy h k => by
  obtain ⟨hs, rfl⟩ := ifSome h
  have e1 := hy.isNon
  rw [hs] at e1
  exact ⟨of_decide_eq_true e1, by rw [hx.isNon]; exact stays e k (.bl _)⟩
/-- in -/
def rInP (G : GC) (neg : Bool) : R2 := fun x y H Q => ∃ d e ys, DD G H x d ∧ DD G H y e ∧ itemsOf e = some ys ∧ pln d e = true ∧ Q (.bl (if neg then !(ys.any fun z => PyData.eqv z d) else ys.any fun z => PyData.eqv z d)) H
theorem depthAll_of {e : D} {ys : List D} (h : itemsOf e = some ys) : PyData.depthAll ys + 1 = e.depth := by
  cases e <;> simp [itemsOf] at h <;> subst h <;> simp [PyData.depth]
theorem or_inP {X : Cx} (hu : X.A.units + 66 < cLine) : OpR X (compareOp .In) (rInP X.gc false) := by
  intro pins s σ H x y v u Q I rx ry h
  obtain ⟨d, e, ys, hd, he, hi, sp, q⟩ := h
  obtain ⟨sd, sp⟩ := band sp
  obtain ⟨pd, pl⟩ := band sp
  obtain ⟨as, r1⟩ := Dp.reads I d x v (hd.dp pd) rx
  obtain ⟨bs, r2⟩ := Dp.reads I e y u (he.dp pl) ry
  have dp := depthAll_of hi
  have hm := shal_min (n := X.A.units + 1) sd (by omega)
  have hm2 : X.A.units + 1 + min (PyData.depthAll ys) d.depth < cLine := by
    have h1 := Nat.min_le_left (PyData.depthAll ys) d.depth
    have h2 := Nat.min_le_right (PyData.depthAll ys) d.depth
    rcases Nat.le_total d.depth e.depth with q1 | q1
    · rw [Nat.min_eq_left q1] at hm; omega
    · rw [Nat.min_eq_right q1] at hm; omega
  cases e <;> simp [itemsOf] at hi <;> subst hi
  · simp only [PyData.plain] at pl
    exact SeqAt.in_list_data r2 r1 pl pd hm2 ⟨.bl _, H, I, rfl, q⟩
  · simp only [PyData.plain] at pl
    exact SeqAt.in_tuple_data r2 r1 pl pd hm2 ⟨.bl _, H, I, rfl, q⟩
theorem or_notInP {X : Cx} (hu : X.A.units + 66 < cLine) : OpR X (compareOp .NotIn) (rInP X.gc true) := by
  intro pins s σ H x y v u Q I rx ry h
  obtain ⟨d, e, ys, hd, he, hi, sp, q⟩ := h
  obtain ⟨sd, sp⟩ := band sp
  obtain ⟨pd, pl⟩ := band sp
  obtain ⟨as, r1⟩ := Dp.reads I d x v (hd.dp pd) rx
  obtain ⟨bs, r2⟩ := Dp.reads I e y u (he.dp pl) ry
  have dp := depthAll_of hi
  have hm := shal_min (n := X.A.units + 1) sd (by omega)
  have hm2 : X.A.units + 1 + min (PyData.depthAll ys) d.depth < cLine := by
    have h1 := Nat.min_le_left (PyData.depthAll ys) d.depth
    have h2 := Nat.min_le_right (PyData.depthAll ys) d.depth
    rcases Nat.le_total d.depth e.depth with q1 | q1
    · rw [Nat.min_eq_left q1] at hm; omega
    · rw [Nat.min_eq_right q1] at hm; omega
  cases e <;> simp [itemsOf] at hi <;> subst hi
  · simp only [PyData.plain] at pl
    exact SeqAt.notIn_list_data r2 r1 pl pd hm2 ⟨.bl _, H, I, rfl, q⟩
  · simp only [PyData.plain] at pl
    exact SeqAt.notIn_tuple_data r2 r1 pl pd hm2 ⟨.bl _, H, I, rfl, q⟩
theorem od_in : OpD G (rInP G false) inD := fun F H x y dx dy z Q e hx hy h k => by
  unfold inD at h
  cases hi : itemsOf dy with
  | none => rw [hi] at h; cases h
  | some ys =>
    rw [hi] at h
    obtain ⟨hs, rfl⟩ := ifSome (show (if pln dx dy = true then some _ else none) = some z from h)
    exact ⟨dx, dy, ys, hx.ex e, hy.ex e, hi, hs, stays e k (.bl _)⟩
theorem od_notIn : OpD G (rInP G true) notInD := fun F H x y dx dy z Q e hx hy h k => by
  unfold notInD at h
  cases hi : itemsOf dy with
  | none => rw [hi] at h; cases h
  | some ys =>
    rw [hi] at h
    obtain ⟨hs, rfl⟩ := ifSome (show (if pln dx dy = true then some _ else none) = some z from h)
    exact ⟨dx, dy, ys, hx.ex e, hy.ex e, hi, hs, stays e k (.bl _)⟩
/-- a subscript -/
theorem DDs.atI {F : Hp} {vs : List V} {ds : List D} {i : Int} {d : D} (h : DDs G F vs ds) (e : L2.atI ds i = some d) : ∃ v, L2.atI vs i = some v ∧ DD G F v d := by
  unfold L2.atI at e ⊢
  rw [h.len]
  cases q : ixN ds.length i with
  | none => rw [q] at e; cases e
  | some j => rw [q] at e; exact h.get e
theorem od_ix : OpD G (rIx G.K) ixD := fun F H x y dx dy z Q e hx hy h k => by
  cases hx with
  | @lst a xs ds h1 h2 =>
    cases hy with
    | int i =>
      obtain ⟨v, q1, q2⟩ := h2.atI h
      exact .inl ⟨a, xs, i, v, rfl, rfl, ex_l e h1, q1, stays e k q2⟩
    | _ => simp [ixD] at h
  | @tup a xs ds h1 h2 =>
    cases hy with
    | int i =>
      obtain ⟨v, q1, q2⟩ := h2.atI h
      exact .inr (.inl ⟨a, xs, i, v, rfl, rfl, ex_t e h1, q1, stays e k q2⟩)
    | _ => simp [ixD] at h
  | str w =>
    cases hy with
    | int i =>
      have h' : (if small w.length = true then (atI w.cps.toList i).map fun c => (.str ⟨#[c]⟩ : D) else none) = some z := h
      cases hs : small w.length with
      | false => rw [hs] at h'; simp at h'
      | true =>
        rw [hs, if_pos rfl] at h'
        cases q : atI w.cps.toList i with
        | none => rw [q] at h'; cases h'
        | some c =>
          rw [q] at h'
          cases h'
          exact .inr (.inr ⟨w, i, c, rfl, rfl, Nat.le_of_lt (small_line hs), q, stays e k (.str _)⟩)
    | _ => simp [ixD] at h
  | _ => cases hy <;> simp [ixD] at h
theorem pd_ix {X : Cx} {E : XK} {p : Option PQ} {a b : Expr} {fa fb : EM} {pos : Pos} (h1 : PED X p E a fa) (h2 : PED X p E b fb) (hs : PlainIx b := by exact fun _ _ => rfl) : PED X p E (.Subscript a b pos) (eOp ixD fa fb) :=
  pe_imp (pe_ix ix_seq h1 h2 hs) fun _ _ _ h => tOp_of od_ix h
end
end DL
end

section
set_option Elab.async false
set_option linter.all false
set_option maxRecDepth 100000
set_option maxHeartbeats 4000000
/-! The data layer, part 5: built-ins called by data, slices. -/
namespace DL
open PySem PySem.Spec PyProof.Rows L2
section
variable {G : GC}
theorem DDs.one_inv {H : Hp} {vs : List V} {d : D} (h : DDs G H vs [d]) : ∃ v, vs = [v] ∧ DD G H v d := by
  cases h with
  | cons a b => cases b; exact ⟨_, rfl, a⟩
theorem DDs.two_inv {H : Hp} {vs : List V} {d e : D} (h : DDs G H vs [d, e]) : ∃ v w, vs = [v, w] ∧ DD G H v d ∧ DD G H w e := by
  cases h with
  | cons a b =>
    cases b with
    | cons b c => cases c; exact ⟨_, _, rfl, a, b⟩
def rLenU (K : PySem.W.Frag) : List V → Hp → VK → Prop := fun xs H Q => (∃ p ys, xs = [.ref p] ∧ (SqL K H p ys ∨ SqT K H p ys) ∧ Q (.int ys.length) H) ∨ (∃ z, xs = [.str z] ∧ z.length ≤ sizeLine ∧ Q (.int z.length) H)
theorem cr_lenU {X : Cx} : CallR X (.builtin "len") (rLenU X.K) := call_len_seq.or call_len_str
theorem cd_len : CallD G (rLenU G.K) lenD := fun F H x dx z Q e hx h k => by
  unfold lenD at h
  split at h
  · cases h
    obtain ⟨v, rfl, hv⟩ := hx.one_inv
    cases hv with
    | lst h1 h2 => exact .inl ⟨_, _, rfl, .inl (ex_l e h1), by rw [h2.len]; exact stays e k (.int _)⟩
  · cases h
    obtain ⟨v, rfl, hv⟩ := hx.one_inv
    cases hv with
    | tup h1 h2 => exact .inl ⟨_, _, rfl, .inr (ex_t e h1), by rw [h2.len]; exact stays e k (.int _)⟩
  · obtain ⟨hs, rfl⟩ := ifSome h
    obtain ⟨v, rfl, hv⟩ := hx.one_inv
    cases hv with
    | str _ => exact .inr ⟨_, rfl, Nat.le_of_lt (small_line hs), stays e k (.int _)⟩
  · cases h
theorem boolsOf_vals {F : Hp} : ∀ {ds : List D} {vs : List V} {bs : List Bool}, DDs G F vs ds → boolsOf ds = some bs → vs = bs.map V.bl
  | [], vs, bs, h, e => by cases h; cases e; rfl
  | .bool b :: r, vs, bs, h, e => by
    cases h with
    | cons h1 h2 =>
      have e' : (boolsOf r).map (b :: ·) = some bs := e
      cases q : boolsOf r with
      | none => rw [q] at e'; cases e'
      | some cs =>
        rw [q] at e'
        cases e'
        rw [h1.inv_bool, boolsOf_vals h2 q]
        rfl
  | .none :: r, _, _, _, e => by cases e
  | .int _ :: r, _, _, _, e => by cases e
  | .str _ :: r, _, _, _, e => by cases e
  | .list _ :: r, _, _, _, e => by cases e
  | .tuple _ :: r, _, _, _, e => by cases e
  | .dict _ :: r, _, _, _, e => by cases e
theorem intsOf_vals {F : Hp} : ∀ {ds : List D} {vs : List V} {bs : List Int}, DDs G F vs ds → intsOf ds = some bs → vs = bs.map V.int
  | [], vs, bs, h, e => by cases h; cases e; rfl
  | .int b :: r, vs, bs, h, e => by
    cases h with
    | cons h1 h2 =>
      have e' : (intsOf r).map (b :: ·) = some bs := e
      cases q : intsOf r with
      | none => rw [q] at e'; cases e'
      | some cs =>
        rw [q] at e'
        cases e'
        rw [h1.inv_int, intsOf_vals h2 q]
        rfl
  | .none :: r, _, _, _, e => by cases e
  | .bool _ :: r, _, _, _, e => by cases e
  | .str _ :: r, _, _, _, e => by cases e
  | .list _ :: r, _, _, _, e => by cases e
  | .tuple _ :: r, _, _, _, e => by cases e
  | .dict _ :: r, _, _, _, e => by cases e
theorem cd_all : CallD G (rAll G.K) allD := fun F H x dx z Q e hx h k => by
  unfold allD at h
  split at h
  · rename_i xs
    cases q : boolsOf xs with
    | none => rw [q] at h; cases h
    | some bs =>
      rw [q] at h
      cases h
      obtain ⟨v, rfl, hv⟩ := hx.one_inv
      cases hv with
      | lst h1 h2 => exact ⟨_, bs, rfl, (by rw [← boolsOf_vals h2 q]; exact ex_l e h1), stays e k (.bl _)⟩
  · cases h
theorem cd_any : CallD G (rAny G.K) anyD := fun F H x dx z Q e hx h k => by
  unfold anyD at h
  split at h
  · rename_i xs
    cases q : boolsOf xs with
    | none => rw [q] at h; cases h
    | some bs =>
      rw [q] at h
      cases h
      obtain ⟨v, rfl, hv⟩ := hx.one_inv
      cases hv with
      | lst h1 h2 => exact ⟨_, bs, rfl, (by rw [← boolsOf_vals h2 q]; exact ex_l e h1), stays e k (.bl _)⟩
  · cases h
theorem maxI_spec : ∀ (r : List Int) (x : Int), maxI x r ∈ x :: r ∧ ∀ y ∈ x :: r, y ≤ maxI x r
  | [], x => ⟨List.mem_singleton_self x, fun y h => by simp at h; simp [maxI, h]⟩
  | b :: r, x => by
    have e : maxI x (b :: r) = maxI (if x < b then b else x) r := rfl
    obtain ⟨h1, h2⟩ := maxI_spec r (if x < b then b else x)
    rw [e]
    generalize maxI (if x < b then b else x) r = m at h1 h2 ⊢
    constructor
    · rcases List.mem_cons.mp h1 with q | q
      · rw [q]; split <;> simp
      · exact List.mem_cons_of_mem _ (List.mem_cons_of_mem _ q)
    · intro y hy
      have h3 := h2 _ List.mem_cons_self
      rcases List.mem_cons.mp hy with rfl | hy
      · split at h3 <;> omega
      · rcases List.mem_cons.mp hy with rfl | hy
        · split at h3 <;> omega
        · exact h2 y (List.mem_cons_of_mem _ hy)
theorem minI_spec : ∀ (r : List Int) (x : Int), minI x r ∈ x :: r ∧ ∀ y ∈ x :: r, minI x r ≤ y
  | [], x => ⟨List.mem_singleton_self x, fun y h => by simp at h; simp [minI, h]⟩
  | b :: r, x => by
    have e : minI x (b :: r) = minI (if b < x then b else x) r := rfl
    obtain ⟨h1, h2⟩ := minI_spec r (if b < x then b else x)
    rw [e]
    generalize minI (if b < x then b else x) r = m at h1 h2 ⊢
    constructor
    · rcases List.mem_cons.mp h1 with q | q
      · rw [q]; split <;> simp
      · exact List.mem_cons_of_mem _ (List.mem_cons_of_mem _ q)
    · intro y hy
      have h3 := h2 _ List.mem_cons_self
      rcases List.mem_cons.mp hy with rfl | hy
      · split at h3 <;> omega
      · rcases List.mem_cons.mp hy with rfl | hy
        · split at h3 <;> omega
        · exact h2 y (List.mem_cons_of_mem _ hy)
def rMaxU (K : PySem.W.Frag) : List V → Hp → VK → Prop := fun xs H Q => rMax K xs H Q ∨ (∃ i j, xs = [.int i, .int j] ∧ Q (.int (if j > i then j else i)) H)
def rMinU (K : PySem.W.Frag) : List V → Hp → VK → Prop := fun xs H Q => rMin K xs H Q ∨ (∃ i j, xs = [.int i, .int j] ∧ Q (.int (if j < i then j else i)) H)
theorem cr_maxU {X : Cx} (hc : X.calm = true) : CallR X (.builtin "max") (rMaxU X.K) := (cr_max hc).or (call_max2 hc)
theorem cr_minU {X : Cx} (hc : X.calm = true) : CallR X (.builtin "min") (rMinU X.K) := (cr_min hc).or (call_min2 hc)
theorem cd_max : CallD G (rMaxU G.K) maxD := fun F H x dx z Q e hx h k => by
  unfold maxD at h
  split at h
  · rename_i xs
    cases q : intsOf xs with
    | none => rw [q] at h; cases h
    | some bs =>
      rw [q] at h
      cases bs with
      | nil => cases h
      | cons b r =>
        cases h
        obtain ⟨v, rfl, hv⟩ := hx.one_inv
        cases hv with
        | lst h1 h2 =>
          refine .inl ⟨_, b :: r, rfl, (by rw [← intsOf_vals h2 q]; exact ex_l e h1), by simp, fun m hm hall => ?_⟩
          obtain ⟨a1, a2⟩ := maxI_spec r b
          have e1 : m = maxI b r := Int.le_antisymm (a2 m hm) (hall _ a1)
          rw [e1]
          exact stays e k (.int _)
  · cases h
    obtain ⟨v, w, rfl, h1, h2⟩ := hx.two_inv
    exact .inr ⟨_, _, by rw [h1.inv_int, h2.inv_int], stays e k (.int _)⟩
  · cases h
theorem cd_min : CallD G (rMinU G.K) minD := fun F H x dx z Q e hx h k => by
  unfold minD at h
  split at h
  · rename_i xs
    cases q : intsOf xs with
    | none => rw [q] at h; cases h
    | some bs =>
      rw [q] at h
      cases bs with
      | nil => cases h
      | cons b r =>
        cases h
        obtain ⟨v, rfl, hv⟩ := hx.one_inv
        cases hv with
        | lst h1 h2 =>
          refine .inl ⟨_, b :: r, rfl, (by rw [← intsOf_vals h2 q]; exact ex_l e h1), by simp, fun m hm hall => ?_⟩
          obtain ⟨a1, a2⟩ := minI_spec r b
          have e1 : m = minI b r := Int.le_antisymm (hall _ a1) (a2 m hm)
          rw [e1]
          exact stays e k (.int _)
  · cases h
    obtain ⟨v, w, rfl, h1, h2⟩ := hx.two_inv
    exact .inr ⟨_, _, by rw [h1.inv_int, h2.inv_int], stays e k (.int _)⟩
  · cases h
theorem cd_abs : CallD G (fun xs H Q => ∃ i, xs = [.int i] ∧ Q (.int (if i < 0 then -i else i)) H) absD := fun F H x dx z Q e hx h k => by
  unfold absD at h
  split at h
  · cases h
    obtain ⟨v, rfl, hv⟩ := hx.one_inv
    exact ⟨_, by rw [hv.inv_int], stays e k (.int _)⟩
  · cases h
theorem cd_int : CallD G (fun xs H Q => (∃ i, xs = [.int i] ∧ Q (.int i) H) ∨ ∃ k, xs = [.bl k] ∧ Q (.int (if k then 1 else 0)) H) intD := fun F H x dx z Q e hx h k => by
  unfold intD at h
  split at h
  · cases h
    obtain ⟨v, rfl, hv⟩ := hx.one_inv
    exact .inl ⟨_, by rw [hv.inv_int], stays e k (.int _)⟩
  · cases h
    obtain ⟨v, rfl, hv⟩ := hx.one_inv
    exact .inr ⟨_, by rw [hv.inv_bool], stays e k (.int _)⟩
  · cases h
theorem cd_tuple : CallD G (fun xs H Q => ∃ p ys, xs = [.ref p] ∧ ((SqL G.K H p ys ∧ ∀ l, H l = none → Q (.ref l) (upd H l (.tup ys))) ∨ (SqT G.K H p ys ∧ Q (.ref p) H))) tupleD := fun F H x dx z Q e hx h k => by
  unfold tupleD at h
  split at h
  · cases h
    obtain ⟨v, rfl, hv⟩ := hx.one_inv
    cases hv with
    | lst h1 h2 => exact ⟨_, _, rfl, .inl ⟨ex_l e h1, newT e k h2⟩⟩
  · cases h
    obtain ⟨v, rfl, hv⟩ := hx.one_inv
    cases hv with
    | tup h1 h2 => exact ⟨_, _, rfl, .inr ⟨ex_t e h1, stays e k (.tup h1 h2)⟩⟩
  · cases h
theorem cd_list : CallD G (fun xs H Q => ∃ p ys, xs = [.ref p] ∧ (SqL G.K H p ys ∨ SqT G.K H p ys) ∧ ∀ l, H l = none → Q (.ref l) (upd H l (.lst ys))) listD := fun F H x dx z Q e hx h k => by
  unfold listD at h
  split at h
  · cases h
    obtain ⟨v, rfl, hv⟩ := hx.one_inv
    cases hv with
    | lst h1 h2 => exact ⟨_, _, rfl, .inl (ex_l e h1), newL e k h2⟩
  · cases h
    obtain ⟨v, rfl, hv⟩ := hx.one_inv
    cases hv with
    | tup h1 h2 => exact ⟨_, _, rfl, .inr (ex_t e h1), newL e k h2⟩
  · cases h
/-! ### isinstance of a built-in type -/
inductive Ty where | int | bool | str | tuple | list
def Ty.nm : Ty → String
  | .int => "int" | .bool => "bool" | .str => "str" | .tuple => "tuple" | .list => "list"
def tyOf : D → String
  | .none => "NoneType" | .bool _ => "bool" | .int _ => "int" | .str _ => "str" | .list _ => "list" | .tuple _ => "tuple" | .dict _ => "dict"
def isiB : D → Ty → Bool
  | .bool _, .int => true
  | .bool _, .bool => true
  | .int _, .int => true
  | .str _, .str => true
  | .list _, .list => true
  | .tuple _, .tuple => true
  | _, _ => false
theorem kit_all : ∀ (t : Ty) (n : String), n = "NoneType" ∨ n = "bool" ∨ n = "int" ∨ n = "str" ∨ n = "list" ∨ n = "tuple" → kitB n t.nm = some (match n, t with
    | "bool", .int => true
    | "bool", .bool => true
    | "int", .int => true
    | "str", .str => true
    | "list", .list => true
    | "tuple", .tuple => true
    | _, _ => false) := fun t n h => by
  rcases h with rfl | rfl | rfl | rfl | rfl | rfl <;> cases t <;> decide +kernel
def notDict : D → Bool
  | .dict _ => false
  | _ => true
theorem isi_kit {H : Hp} {v : V} {d : D} (h : DD G H v d) (nd : notDict d = true) (t : Ty) : PySem.W.kitOne G.K (.type (tyOf d)) (.type t.nm) = some (isiB d t) := by
  cases h with
  | dct _ _ _ => cases nd
  | opq _ => cases nd
  | _ => refine kit_ty (kit_all t _ (by simp [tyOf])) |>.trans ?_ <;> cases t <;> rfl
theorem dd_ty {H : Hp} {v : V} {d : D} (h : DD G H v d) (nd : notDict d = true) : TyX G.K H v (.type (tyOf d)) := by
  cases h with
  | non => exact .base .non
  | bl b => exact .base (.bl b)
  | int b => exact .base (.int b)
  | str b => exact .base (.str b)
  | lst h1 h2 =>
    rcases h1 with (h1 | ⟨o, h1⟩) | ⟨o, its, n, h1, h3, _⟩
    · exact .base (.lst h1)
    · exact .base (.frz h1)
    · exact .kList h1 h3
  | tup h1 h2 =>
    rcases h1 with (h1 | ⟨o, h1⟩) | ⟨o, its, n, h1, h3, _⟩
    · exact .base (.tup h1)
    · exact .fTuple h1
    · exact .kTuple h1 h3
  | dct _ _ _ => cases nd
  | opq _ => cases nd
/-- isinstance(e, T) -/
def isiD (t : Ty) (d : D) : Option D := if notDict d then some (.bool (isiB d t)) else none
theorem pd_isi {X : Cx} {E : XK} {p : Option PQ} {a : Expr} {fa : EM} {pos q q2 : Pos} {tn : Str} (t : Ty) (hb : bootBuiltins tn = some (.type t.nm)) (hg : Gl X "isinstance") (hm : X.mg "isinstance" = none) (hgt : Gl X tn) (hmt : X.mg tn = none) (h1 : PED X p E a fa)
    (hn : tn ≠ "__name__" := by decide) (hdb : (tn == ("__debug__" : Str)) = false := by decide)
    (he : starEach [a, .Name tn q2] X.env = (false, eval a X.env) :: starEach [.Name tn q2] X.env := by rfl) (he2 : starEach [.Name tn q2] X.env = (false, eval (.Name tn q2) X.env) :: starEach [] X.env := by rfl) (hpl : (backTo pos (starEach [.Name tn q2] X.env)).any (·.1) = false := by rfl) :
    PED X p E (.Call (.Name "isinstance" q) [a, .Name tn q2] [] pos) (eUn (isiD t) fa) :=
  pe_imp (pe_callB call_isi hg hm (by decide +kernel) (pa_cons h1 (pa_cons (pe_bltn (v := .ty t.nm) hgt hmt hb rfl hn hdb) pa_nil he2) he) (by decide) (by decide) he hpl) fun σ H Q ⟨F, ρ, s, pre, post⟩ =>
    ⟨F, ρ, s, pre, Post.bind post fun d1 s1 F1 x H1 e1 x1 r1 q1 post1 => by
      obtain ⟨z, ez, post2⟩ := ofO_post post1
      obtain ⟨nd, rfl⟩ := ifSome ez
      exact ⟨x, _, _, _, _, rfl, .ty _, dd_ty (q1.ex x1.fh) nd, isi_kit (q1.ex x1.fh) nd t, Post.okI post2 x1.fh r1 (.bl _)⟩⟩
/-! ### slices -/
def cutD (xs : List D) (lo hi : Option Int) : List D := (xs.drop (HT.sIx xs.length 0 lo)).take (HT.sIx xs.length xs.length hi - HT.sIx xs.length 0 lo)
def slD (x : D) (lo hi : Option Int) : Option D := match x with
  | .list xs => some (.list (cutD xs lo hi))
  | .tuple xs => some (.tuple (cutD xs lo hi))
  | .str z => if small z.length then some (.str (Txt.slice z lo hi)) else none
  | _ => none
abbrev OM := Rho → List D → R (Option Int × List D)
def tDO (G : GC) (p : Option PQ) (E : XK) (f : OM) : TO := fun σ H Q => ∃ F ρ s, Pre G p F H σ ρ s ∧ Post G p E F H (f ρ s) (fun _ _ (v d : Option Int) => v = d) Q
abbrev POD (X : Cx) (p : Option PQ) (E : XK) (e : Option Expr) (f : OM) : Prop := PO X e (tDO X.gc p E f)
def oNone : OM := fun _ s => .ok (none, s)
def isI : D → Option Int
  | .int i => some i
  | _ => none
def oSome (a : EM) : OM := fun ρ s => (a ρ s).bind fun z => (ofO (isI z.1) z.2).bind fun y => .ok (some y.1, y.2)
def eSl (a : EM) (l h : OM) : EM := fun ρ s => (a ρ s).bind fun z => (l ρ z.2).bind fun x => (h ρ x.2).bind fun y => ofO (slD z.1 x.1 y.1) y.2
theorem po_imp {X : Cx} {e : Option Expr} {t t' : TO} (h : PO X e t) (k : ∀ σ H Q, t' σ H Q → t σ H Q) : PO X e t' := ⟨fun pins s σ H Q I hw => h.run pins s σ H Q I (k σ H Q hw)⟩
theorem isI_some {d : D} {k : Int} (h : isI d = some k) : d = .int k := by
  cases d <;> simp [isI] at h
  rw [h]
def rSlU (K : PySem.W.Frag) : V → Option Int → Option Int → Hp → VK → Prop := fun x lo hi H Q => rSlL K x lo hi H Q ∨ (rSlA K x lo hi H Q ∨ ∃ z, x = .str z ∧ z.length ≤ sizeLine ∧ Q (.str (Txt.slice z lo hi)) H)
theorem cutV_len {F : Hp} {vs : List V} {ds : List D} (h : DDs G F vs ds) (lo hi : Option Int) : DDs G F (cutV vs lo hi) (cutD ds lo hi) := by
  unfold cutV cutD
  rw [h.len]
  exact (h.drop _).take _
end
section
variable {X : Cx} {E : XK} {p : Option PQ}
theorem pod_none : POD X p E none oNone := po_imp po_none fun σ H Q ⟨F, ρ, s, pre, post⟩ => Post.okI (show Post X.gc p E F H (.ok ((none : Option Int), s)) _ Q from post) pre.ex pre.sr rfl
theorem pod_some {a : Expr} {fa : EM} (h : PED X p E a fa) : POD X p E (some a) (oSome fa) := po_imp (po_some h) fun σ H Q ⟨F, ρ, s, pre, post⟩ => ⟨F, ρ, s, pre, Post.bind post fun d1 s1 F1 x H1 e1 x1 r1 q1 post1 => by
  cases ek : isI d1 with
  | none => simp only [ek] at post1; exact post1.elim
  | some i =>
    simp only [ek] at post1
    have e := isI_some ek
    subst e
    exact ⟨i, q1.inv_int, Post.okI (show Post X.gc p E F1 H1 (.ok (some i, s1)) _ Q from post1) x1.fh r1 rfl⟩⟩
theorem sl_U : SlR X (rSlU X.K) := sl_list.or (sl_tupA.or C8.sl_txt)
end
end DL
end

section
set_option Elab.async false
set_option linter.all false
set_option maxRecDepth 100000
set_option maxHeartbeats 4000000
/-! The data layer, part 6: what the slots hold, statements. -/
namespace DL
open PySem PySem.Spec PyProof.Rows L2
section
variable {X : Cx} {E : XK} {p : Option PQ}
theorem pd_sl {a : Expr} {lo hi : Option Expr} {fa : EM} {l h : OM} {pos p2 : Pos} (h1 : PED X p E a fa) (h2 : POD X p E lo l) (h3 : POD X p E hi h) : PED X p E (.Subscript a (.Slice lo hi none p2) pos) (eSl fa l h) :=
  pe_imp (pe_slice sl_U h1 h2 h3) fun σ H Q ⟨F, ρ, s, pre, post⟩ => ⟨F, ρ, s, pre, Post.bind post fun d1 s1 F1 x H1 e1 x1 r1 q1 post1 =>
    ⟨F1, ρ, s1, pre.next x1 r1, Post.bind post1 fun d2 s2 F2 lo' H2 e2 x2 r2 q2 post2 => by
      have q2' : lo' = d2 := q2
      subst q2'
      exact ⟨F2, ρ, s2, (pre.next x1 r1).next x2 r2, Post.bind post2 fun d3 s3 F3 hi' H3 e3 x3 r3 q3 post3 => by
        have q3' : hi' = d3 := q3
        subst q3'
        obtain ⟨z, ez, post4⟩ := ofO_post post3
        have k := post_end post4 r3
        have hx := (q1.ex x2.ff).ex x3.ff
        cases hx with
        | lst h1 h2 =>
          cases ez
          exact .inl ⟨_, _, rfl, ex_l x3.fh h1, newL x3.fh k (cutV_len h2 lo' hi')⟩
        | @tup a' xs ds h1 h2 =>
          cases ez
          refine .inr (.inl ⟨_, _, rfl, ex_t x3.fh h1, fun hw => ?_, fun _ => newT x3.fh k (cutV_len h2 lo' hi')⟩)
          have e : cutD ds lo' hi' = ds := by
            unfold cutD
            rw [← h2.len, hw.1, hw.2, List.drop_zero, Nat.sub_zero, h2.len, List.take_length]
          rw [e] at k
          exact stays x3.fh k (.tup h1 h2)
        | str w =>
          obtain ⟨hs, rfl⟩ := ifSome (show (if small w.length = true then some (.str (Txt.slice w lo' hi')) else none) = some z from ez)
          exact .inr (.inr ⟨w, rfl, Nat.le_of_lt (small_line hs), stays x3.fh k (.str _)⟩)
        | _ => simp [slD] at ez⟩⟩⟩
end
/-! ### cells -/
inductive Cell where
  | lst (xs : List D)
  | dct (kvs : List (D × D))
def Cell.data : Cell → D
  | .lst xs => .list xs
  | .dct kvs => .dict kvs
inductive L where
  | un
  | d (x : D)
  | own (c : Cell)
def CellAt (G : GC) (F H : Hp) (a : Addr) : Cell → Prop
  | .lst xs => ∃ vs, H a = some (.lst vs) ∧ DDs G F vs xs
  | .dct kvs => ∃ es, H a = some (dO a es) ∧ dictOk kvs = true ∧ DE G F es kvs
variable {G : GC} {F F' H H' H0 F0 : Hp} {a : Addr} {c : Cell}
theorem CellAt.there (h : CellAt G F H a c) : ∃ o, H a = some o := by
  cases c with
  | lst xs => obtain ⟨_, h, _⟩ := h; exact ⟨_, h⟩
  | dct xs => obtain ⟨_, h, _⟩ := h; exact ⟨_, h⟩
theorem CellAt.mono (h : CellAt G F H a c) (e : Ex F F') (k : ∀ o, H a = some o → nT o → H' a = some o) : CellAt G F' H' a c := by
  cases c with
  | lst xs => obtain ⟨vs, h1, h2⟩ := h; exact ⟨vs, k _ h1 nT_lst, h2.ex e⟩
  | dct xs => obtain ⟨es, h1, h2, h3⟩ := h; exact ⟨es, k _ h1 nT_ext, h2, h3.ex e⟩
theorem CellAt.data (h : CellAt G F H a c) (e : Ex F F') (k : ∀ o, H a = some o → F' a = some o) : DD G F' (.ref a) c.data := by
  cases c with
  | lst xs => obtain ⟨vs, h1, h2⟩ := h; exact .lst (SqL.of (k _ h1)) (h2.ex e)
  | dct xs => obtain ⟨es, h1, h2, h3⟩ := h; exact .dct (k _ h1) h2 (h3.ex e)
def LOk (G : GC) (F H H0 : Hp) (v : Option (Option V)) : L → Prop
  | .un => True
  | .d x => ∃ u, v = some (some u) ∧ DD G F u x
  | .own c => ∃ a, v = some (some (.ref a)) ∧ F a = none ∧ H0 a = none ∧ CellAt G F H a c
/-- the address of what a slot owns -/
def oad (v : Option (Option V)) : Option L → Option Addr
  | some (.own _) => match v with
    | some (some (.ref a)) => some a
    | _ => none
  | _ => none
structure RelL (G : GC) (F H H0 : Hp) (σ : L2.St) (ρ : List L) : Prop where
  len : σ.length = ρ.length
  at_ : ∀ (i : Nat) (l : L), ρ[i]? = some l → LOk G F H H0 σ[i]? l
  sep : ∀ (i j : Nat) (a : Addr), oad σ[i]? ρ[i]? = some a → oad σ[j]? ρ[j]? = some a → i = j
theorem oad_own {v : Option (Option V)} {l : Option L} {a : Addr} (h : oad v l = some a) : ∃ c, l = some (.own c) ∧ v = some (some (.ref a)) := by
  unfold oad at h
  split at h
  · rename_i c
    split at h
    · cases h; exact ⟨c, rfl, rfl⟩
    · cases h
  · cases h
theorem RelL.owned {σ : L2.St} {ρ : List L} (R : RelL G F H H0 σ ρ) {i : Nat} {a : Addr} (h : oad σ[i]? ρ[i]? = some a) : ∃ c, ρ[i]? = some (.own c) ∧ σ[i]? = some (some (.ref a)) ∧ F a = none ∧ H0 a = none ∧ CellAt G F H a c := by
  obtain ⟨c, e1, e2⟩ := oad_own h
  obtain ⟨b, q1, q2, q3, q4⟩ := R.at_ i _ e1
  rw [e2] at q1
  cases q1
  exact ⟨c, e1, e2, q2, q3, q4⟩
/-- the heap goes on; what is owned stays -/
theorem RelL.mono {σ : L2.St} {ρ : List L} (R : RelL G F H H0 σ ρ) (e : Ex F F') (hF : ∀ (i : Nat) a, oad σ[i]? ρ[i]? = some a → F' a = none ∧ ∀ o, H a = some o → nT o → H' a = some o) : RelL G F' H' H0 σ ρ :=
  ⟨R.len, fun i l hl => by
    have h := R.at_ i l hl
    cases l with
    | un => trivial
    | d x => obtain ⟨u, h1, h2⟩ := h; exact ⟨u, h1, h2.ex e⟩
    | own c =>
      obtain ⟨a, h1, h2, h3, h4⟩ := h
      have eo : oad σ[i]? ρ[i]? = some a := by rw [hl, h1]; rfl
      exact ⟨a, h1, (hF i a eo).1, h3, h4.mono e (hF i a eo).2⟩, R.sep⟩
theorem get_set {α : Type} (l : List α) (i j : Nat) (x : α) : (l.set i x)[j]? = if i = j ∧ i < l.length then some x else l[j]? := by
  rw [List.getElem?_set]
  by_cases h : i = j
  · subst h
    by_cases h2 : i < l.length
    · simp [h2]
    · simp [h2, List.getElem?_eq_none_iff.mpr (Nat.not_lt.mp h2)]
  · simp [h]
/-- a slot gets data -/
theorem RelL.setD {σ : L2.St} {ρ : List L} (R : RelL G F H H0 σ ρ) (i : Nat) {v : V} {x : D} (h : DD G F v x) : RelL G F H H0 (σ.set i (some v)) (ρ.set i (.d x)) := by
  refine ⟨by rw [List.length_set, List.length_set]; exact R.len, fun j l hl => ?_, fun j k b hj hk => ?_⟩
  · rw [get_set] at hl ⊢
    rw [R.len]
    by_cases q : i = j ∧ i < ρ.length
    · rw [if_pos q] at hl ⊢
      cases hl
      exact ⟨v, rfl, h⟩
    · rw [if_neg q] at hl ⊢
      exact R.at_ j l hl
  · rw [get_set, get_set] at hj hk
    rw [R.len] at hj hk
    by_cases q : i = j ∧ i < ρ.length
    · rw [if_pos q, if_pos q] at hj; cases hj
    · by_cases q2 : i = k ∧ i < ρ.length
      · rw [if_pos q2, if_pos q2] at hk; cases hk
      · rw [if_neg q, if_neg q] at hj
        rw [if_neg q2, if_neg q2] at hk
        exact R.sep j k b hj hk
/-- a slot gets a thing of one's own that no other slot owns -/
theorem RelL.setO {σ : L2.St} {ρ : List L} (R : RelL G F H H0 σ ρ) (i : Nat) {a : Addr} {c : Cell} (h1 : F a = none) (h2 : H0 a = none) (h3 : CellAt G F H a c) (hn : ∀ (j : Nat), j ≠ i → oad σ[j]? ρ[j]? ≠ some a) : RelL G F H H0 (σ.set i (some (.ref a))) (ρ.set i (.own c)) := by
  refine ⟨by rw [List.length_set, List.length_set]; exact R.len, fun j l hl => ?_, fun j k b hj hk => ?_⟩
  · rw [get_set] at hl ⊢
    rw [R.len]
    by_cases q : i = j ∧ i < ρ.length
    · rw [if_pos q] at hl ⊢
      cases hl
      exact ⟨a, rfl, h1, h2, h3⟩
    · rw [if_neg q] at hl ⊢
      exact R.at_ j l hl
  · rw [get_set, get_set] at hj hk
    rw [R.len] at hj hk
    by_cases q : i = j ∧ i < ρ.length
    · rw [if_pos q, if_pos q] at hj
      cases hj
      by_cases q2 : i = k ∧ i < ρ.length
      · exact q.1.symm.trans q2.1
      · rw [if_neg q2, if_neg q2] at hk
        exact absurd hk (hn k fun z => q2 ⟨z.symm, q.2⟩)
    · rw [if_neg q, if_neg q] at hj
      by_cases q2 : i = k ∧ i < ρ.length
      · rw [if_pos q2, if_pos q2] at hk
        cases hk
        exact absurd hj (hn j fun z => q ⟨z.symm, q2.2⟩)
      · rw [if_neg q2, if_neg q2] at hk
        exact R.sep j k b hj hk
/-! ### looking at slots, freezing them -/
def frz (ms : List Nat) (i : Nat) (l : L) : L := match l with
  | .own c => if ms.contains i then .d c.data else .own c
  | l => l
def fz (ms : List Nat) (ρ : List L) : List L := ρ.mapIdx (frz ms)
def vw (ρ : List L) : Rho := ρ.map fun l => match l with
  | .d x => some x
  | _ => none
theorem fz_get (ms : List Nat) (ρ : List L) (i : Nat) : (fz ms ρ)[i]? = (ρ[i]?).map (frz ms i) := by
  unfold fz
  rw [List.getElem?_mapIdx]
theorem vw_rel {σ : L2.St} {ρ : List L} (R : RelL G F H H0 σ ρ) : RelD G F σ (vw ρ) := fun i d h => by
  unfold vw at h
  rw [List.getElem?_map] at h
  cases q : ρ[i]? with
  | none => rw [q] at h; cases h
  | some l =>
    rw [q] at h
    cases l with
    | d x => cases h; exact R.at_ i _ q
    | un => cases h
    | own c => cases h
/-! the frozen heap with the lists at ms -/
open Classical in
noncomputable def fzF (F H : Hp) (σ : L2.St) (ρ : List L) (ms : List Nat) : Hp := fun a => if (∃ i ∈ ms, oad σ[i]? ρ[i]? = some a) then H a else F a
theorem fzF_yes {σ : L2.St} {ρ : List L} {ms : List Nat} {i : Nat} (hm : i ∈ ms) (ha : oad σ[i]? ρ[i]? = some a) : fzF F H σ ρ ms a = H a := by
  unfold fzF
  rw [if_pos ⟨i, hm, ha⟩]
theorem fzF_no {σ : L2.St} {ρ : List L} {ms : List Nat} (h : ¬ ∃ i ∈ ms, oad σ[i]? ρ[i]? = some a) : fzF F H σ ρ ms a = F a := by
  unfold fzF
  rw [if_neg h]
theorem frz_in {ms : List Nat} {i : Nat} {c : Cell} (h : i ∈ ms) : frz ms i (.own c) = .d c.data := by simp [frz, h]
theorem frz_out {ms : List Nat} {i : Nat} {c : Cell} (h : ¬ i ∈ ms) : frz ms i (.own c) = .own c := by simp [frz, h]
theorem oad_frz {v : Option (Option V)} {l : L} {ms : List Nat} {i : Nat} (h : oad v (some (frz ms i l)) = some a) : oad v (some l) = some a := by
  cases l with
  | un => cases h
  | d x => cases h
  | own c =>
    by_cases q : i ∈ ms
    · rw [frz_in q] at h; cases h
    · rw [frz_out q] at h; exact h
/-- some cells are frozen -/
theorem freeze {σ : L2.St} {ρ : List L} {p : Option PQ} (e : Ext G p F0 H0 F H) (R : RelL G F H H0 σ ρ) (ms : List Nat) :
    Ext G p F0 H0 (fzF F H σ ρ ms) H ∧ Ex F (fzF F H σ ρ ms) ∧ RelL G (fzF F H σ ρ ms) H H0 σ (fz ms ρ) := by
  have exF : Ex F (fzF F H σ ρ ms) := fun b o q => by
    by_cases h : ∃ i ∈ ms, oad σ[i]? ρ[i]? = some b
    · obtain ⟨i, hm, ha⟩ := h
      obtain ⟨c, _, _, q2, _⟩ := R.owned ha
      rw [q2] at q; cases q
    · rw [fzF_no h]; exact q
  have exH : Ex (fzF F H σ ρ ms) H := fun b o q => by
    by_cases h : ∃ i ∈ ms, oad σ[i]? ρ[i]? = some b
    · obtain ⟨i, hm, ha⟩ := h
      rw [fzF_yes hm ha] at q; exact q
    · rw [fzF_no h] at q; exact e.fh b o q
  refine ⟨⟨e.ff.trans exF, exH, fun b hb => ?_, e.st, e.dom, e.tb⟩, exF, ⟨?_, fun i l hl => ?_, fun i j b hi hj => ?_⟩⟩
  · rw [fzF_no, e.own b hb]
    rintro ⟨i, hm, ha⟩
    obtain ⟨c, _, _, _, q3, _⟩ := R.owned ha
    exact hb q3
  · rw [R.len]; simp [fz]
  · rw [fz_get] at hl
    cases q : ρ[i]? with
    | none => rw [q] at hl; cases hl
    | some m =>
      rw [q] at hl
      have hl' : frz ms i m = l := Option.some.inj hl
      subst hl'
      have hm := R.at_ i m q
      cases m with
      | un => trivial
      | d x => obtain ⟨u, h1, h2⟩ := hm; exact ⟨u, h1, h2.ex exF⟩
      | own c =>
        obtain ⟨a, h1, h2, h3, h4⟩ := hm
        have ea : oad σ[i]? ρ[i]? = some a := by rw [q, h1]; rfl
        by_cases hi : i ∈ ms
        · rw [frz_in hi]
          exact ⟨.ref a, h1, h4.data exF fun o ho => by rw [fzF_yes hi ea]; exact ho⟩
        · rw [frz_out hi]
          refine ⟨a, h1, ?_, h3, h4.mono exF fun _ z _ => z⟩
          rw [fzF_no, h2]
          rintro ⟨k, hm, ha⟩
          have e2 := R.sep k i a ha ea
          subst e2
          exact hi hm
  · rw [fz_get] at hi hj
    have g : ∀ k, oad σ[k]? ((ρ[k]?).map (frz ms k)) = some b → oad σ[k]? ρ[k]? = some b := fun k hk => by
      cases q : ρ[k]? with
      | none => rw [q] at hk; cases hk
      | some m => rw [q] at hk; exact oad_frz hk
    exact R.sep i j b (g i hi) (g j hj)
open Classical in
noncomputable def unF (F H F2 : Hp) : Hp := fun b => if F b = none ∧ H b ≠ none then none else F2 b
theorem unF_no {F2 : Hp} {b : Addr} (h1 : F b = none) (h2 : H b ≠ none) : unF F H F2 b = none := by unfold unF; rw [if_pos ⟨h1, h2⟩]
theorem unF_in {F2 : Hp} {b : Addr} (h1 : F b ≠ none) : unF F H F2 b = F2 b := by unfold unF; rw [if_neg fun z => h1 z.1]
theorem unF_new {F2 : Hp} {b : Addr} (h1 : H b = none) : unF F H F2 b = F2 b := by unfold unF; rw [if_neg fun z => z.2 h1]
theorem tbF_fz {G : GC} {F H H0 : Hp} {σ : L2.St} {ρ : List L} (t : TbF G F H) (R : RelL G F H H0 σ ρ) (ms : List Nat) : TbF G (fzF F H σ ρ ms) H := ⟨t.1, fun z hz => by
  rw [fzF_no]
  · exact t.2 z hz
  · rintro ⟨i, _, hi⟩
    obtain ⟨c, _, _, _, _, q4⟩ := R.owned hi
    obtain ⟨ps, hp⟩ := t.1.some hz
    cases c with
    | lst xs => obtain ⟨vs, h, _⟩ := q4; rw [hp] at h; cases h
    | dct xs => obtain ⟨es, h, _⟩ := q4; rw [hp] at h; unfold dO at h; cases h⟩
/-- behind an expression nothing but what it made is new -/
theorem unfreeze {σ : L2.St} {ρ : List L} {p : Option PQ} {F1 F2 H2 : Hp} {s s2 : List D} (e : Ext G p F0 H0 F H) (R : RelL G F H H0 σ ρ) (hp : ∀ a, p = some (.sp a) → H0 a ≠ none) (e1 : Ex F F1) (x : Ext G p F1 H F2 H2) (r : SRel G p F2 H2 s2) (r0 : SRel G p F H s) :
    Ext G p F0 H0 (unF F H F2) H2 ∧ RelL G (unF F H F2) H2 H0 σ ρ ∧ SRel G p (unF F H F2) H2 s2 := by
  have exF : Ex F (unF F H F2) := fun b o q => by
    rw [unF_in (by rw [q]; simp)]
    exact x.ff b o (e1 b o q)
  refine ⟨⟨e.ff.trans exF, fun b o q => ?_, fun b hb => ?_, fun b o n q w => x.st b o n (e.st b o n q w) w, fun b hb => x.dom b (e.dom b hb), fun t => x.tb (e.tb t)⟩, R.mono exF fun i a ha => ?_, ?_⟩
  · by_cases h1 : F b = none
    · by_cases h2 : H b = none
      · rw [unF_new h2] at q; exact x.fh b o q
      · rw [unF_no h1 h2] at q; cases q
    · rw [unF_in h1] at q; exact x.fh b o q
  · have h2 := e.dom b hb
    have h3 := e.own b hb
    cases h1 : F b with
    | none => rw [unF_no h1 h2, ← h3, h1]
    | some o => rw [unF_in (by rw [h1]; simp), ← h3, h1]; exact x.ff b o (e1 b o h1)
  · obtain ⟨c, e3, e4, q2, q3, q4⟩ := R.owned ha
    obtain ⟨o, ho⟩ := q4.there
    refine ⟨unF_no q2 (by rw [ho]; simp), fun o' h' w => x.st a o' (fun z => ?_) h' w⟩
    exact hp a z.symm q3
  · refine ⟨⟨r.1.1, fun z hz => by unfold unF; split; rfl; exact r.1.2 z hz⟩, ?_⟩
    match p, r.2, r0.2 with
    | none, r, _ => exact r
    | some (.sp a), r, r0 =>
      obtain ⟨h1, vs, h2, h3⟩ := r
      obtain ⟨g1, ws, g2, g3⟩ := r0
      exact ⟨unF_no g1 (by rw [g2]; simp), vs, h2, h3⟩
    | some (.fn F3), r, r0 => exact ⟨r.1, r0.2.trans exF⟩
end DL
end

section
set_option Elab.async false
set_option linter.all false
set_option maxRecDepth 100000
set_option maxHeartbeats 4000000
/-! The data layer, part 7: statements. -/
namespace DL
open PySem PySem.Spec PyProof.Rows L2
/-- how a statement ends -/
inductive Fl where
  | nx (ρ : List L) (s : List D)
  | rt (d : D) (s : List D)
  | bk (ρ : List L) (s : List D)
  | ct (ρ : List L) (s : List D)
  | ex (e : Exn)
  | un
abbrev SM := List L → List D → Fl
/-- the state: F frozen, H the heap, from the entry at (F0, H0) -/
structure St7 (X : Cx) (p : Option PQ) (F0 H0 F H : Hp) (σ : L2.St) (ρ : List L) (s : List D) : Prop where
  ext : Ext X.gc p F0 H0 F H
  sr : SRel X.gc p F H s
  rl : RelL X.gc F H H0 σ ρ
def PostS (X : Cx) (p : Option PQ) (E : XK) (F0 H0 Fb : Hp) (r : Fl) (D : Ends) : Prop := match r with
  | .nx ρ s => ∀ F σ H, Ex Fb F → St7 X p F0 H0 F H σ ρ s → D.nx σ H
  | .rt d s => ∀ F v H, Ext X.gc p F0 H0 F H → SRel X.gc p F H s → DD X.gc F v d → D.rt v H
  | .bk ρ s => ∀ F σ H, Ex Fb F → St7 X p F0 H0 F H σ ρ s → D.bk σ H
  | .ct ρ s => ∀ F σ H, Ex Fb F → St7 X p F0 H0 F H σ ρ s → D.ct σ H
  | .ex e => ∀ F H, Ex Fb F → Ext X.gc p F0 H0 F H → ExW X.gc E e F H
  | .un => False
def tS (X : Cx) (p : Option PQ) (E : XK) (F0 H0 : Hp) (g : SM) : TS := fun D σ H => ∃ F ρ s, St7 X p F0 H0 F H σ ρ s ∧ PostS X p E F0 H0 F (g ρ s) D
abbrev PSD (X : Cx) (p : Option PQ) (E : XK) (F0 H0 : Hp) (st : Stmt) (g : SM) : Prop := PS X st (tS X p E F0 H0 g)
abbrev PSsD (X : Cx) (p : Option PQ) (E : XK) (F0 H0 : Hp) (st : List Stmt) (g : SM) : Prop := PSs X st (tS X p E F0 H0 g)
theorem ps_imp {X : Cx} {st : Stmt} {t t' : TS} (h : PS X st t) (k : ∀ D σ H, t' D σ H → t D σ H) : PS X st t' := ⟨fun pins s σ H D I hw => h.run pins s σ H D I (k D σ H hw)⟩
theorem pss_imp {X : Cx} {st : List Stmt} {t t' : TS} (h : PSs X st t) (k : ∀ D σ H, t' D σ H → t D σ H) : PSs X st t' := ⟨fun pins s σ H D I hw => h.run pins s σ H D I (k D σ H hw)⟩
section
variable {X : Cx} {p : Option PQ} {E : XK} {F0 H0 F H : Hp} {σ : L2.St} {ρ : List L} {s : List D}
theorem PostS.base {Fb Fb' : Hp} {r : Fl} {D : Ends} (h : PostS X p E F0 H0 Fb r D) (e : Ex Fb Fb') : PostS X p E F0 H0 Fb' r D := by
  cases r with
  | nx ρ s => exact fun F σ H a b => h F σ H (e.trans a) b
  | bk ρ s => exact fun F σ H a b => h F σ H (e.trans a) b
  | ct ρ s => exact fun F σ H a b => h F σ H (e.trans a) b
  | rt d s => exact h
  | ex ee => exact fun F H a b => h F H (e.trans a) b
  | un => exact h
def exprS {α : Type} (r : R (α × List D)) (G : α → List D → Fl) : Fl := match r with
  | .ok z => G z.1 z.2
  | .ex e => .ex e
  | .un => .un
@[simp] theorem exprS_ok {α : Type} (z : α × List D) (G : α → List D → Fl) : exprS (.ok z) G = G z.1 z.2 := rfl
@[simp] theorem exprS_ex {α : Type} (e : Exn) (G : α → List D → Fl) : exprS (.ex e) G = .ex e := rfl
@[simp] theorem exprS_un {α : Type} (G : α → List D → Fl) : exprS .un G = .un := rfl
/-- an expression is reckoned over the slots, the lists at ms frozen; behind it they are frozen, or as before -/
theorem expr_run {α β : Type} {rel : Hp → Hp → β → α → Prop} {f : Rho → List D → R (α × List D)} {ms : List Nat} {G : α → List D → Fl} {D : Ends} {T : β → Hp → Prop} (hp : ∀ a, p = some (.sp a) → H0 a ≠ none) (st : St7 X p F0 H0 F H σ ρ s) (q : PostS X p E F0 H0 F (exprS (f (vw (fz ms ρ)) s) G) D)
    (k : ∀ d s' F2 v H2, St7 X p F0 H0 F2 H2 σ (fz ms ρ) s' → Ex F F2 → (∃ F', St7 X p F0 H0 F' H2 σ ρ s' ∧ Ex F F') → rel F2 H2 v d → PostS X p E F0 H0 F (G d s') D → T v H2) :
    ∃ F ρ' s, Pre X.gc p F H σ ρ' s ∧ Post X.gc p E F H (f ρ' s) rel T := by
  obtain ⟨e1, e2, e3⟩ := freeze st.ext st.rl ms
  have np : ∀ a, p = some (.sp a) → fzF F H σ ρ ms a = F a := fun a ha => fzF_no fun ⟨i, hm, hi⟩ => by
    obtain ⟨c, _, _, _, q3, _⟩ := st.rl.owned hi
    exact hp a ha q3
  have sr1 : SRel X.gc p (fzF F H σ ρ ms) H s := by
    refine ⟨tbF_fz st.sr.1 st.rl ms, ?_⟩
    match p, st.sr.2, np with
    | none, h, _ => exact h
    | some (.sp a), h, np =>
      obtain ⟨h1, h2⟩ := h
      exact ⟨by rw [np a rfl]; exact h1, h2⟩
    | some (.fn F3), h, _ => exact ⟨h.1, h.2.trans e2⟩
  refine ⟨fzF F H σ ρ ms, vw (fz ms ρ), s, ⟨e1.fh, sr1, vw_rel e3⟩, ?_⟩
  cases hf : f (vw (fz ms ρ)) s with
  | un => rw [hf] at q; exact q
  | ex e =>
    rw [hf] at q
    have q' : ∀ F1 H, Ex F F1 → Ext X.gc p F0 H0 F1 H → ExW X.gc E e F1 H := q
    exact fun F' H' x => q' F' H' (e2.trans x.ff) (e1.trans x)
  | ok z =>
    rw [hf] at q
    intro F2 v H2 x r hv
    obtain ⟨u1, u2, u3⟩ := unfreeze st.ext st.rl hp e2 x r st.sr
    refine k z.1 z.2 F2 v H2 ⟨e1.trans x, r, e3.mono x.ff fun i a ha => ?_⟩ (e2.trans x.ff) ⟨_, ⟨u1, u3, u2⟩, fun b o hb => by rw [unF_in (by rw [hb]; simp)]; exact x.ff b o (e2 b o hb)⟩ hv q
    obtain ⟨c, _, _, q2, q3, q4⟩ := e3.owned ha
    obtain ⟨o, ho⟩ := q4.there
    exact ⟨(x.own a (by rw [ho]; simp)).trans q2, fun o' h' w => x.st a o' (fun z => hp a z.symm q3) h' w⟩

/-! ### blocks, ifs, returns -/
def gNext : SM := fun ρ s => .nx ρ s
def gSeq (a b : SM) : SM := fun ρ s => match a ρ s with
  | .nx ρ' s' => b ρ' s'
  | r => r
def gRet (ms : List Nat) (f : EM) : SM := fun ρ s => exprS (f (vw (fz ms ρ)) s) fun d s' => .rt d s'
def gIf (ms : List Nat) (c : TM) (a b : SM) : SM := fun ρ s => exprS (c (vw (fz ms ρ)) s) fun k s' => if k = true then a ρ s' else b ρ s'
def gDrop (ms : List Nat) (f : EM) : SM := fun ρ s => exprS (f (vw (fz ms ρ)) s) fun _ s' => .nx ρ s'
def gRaise (c : Str) : SM := fun _ _ => .ex ⟨c, none⟩
def gBrk : SM := fun ρ s => .bk ρ s
def gCont : SM := fun ρ s => .ct ρ s
theorem psd_nil : PSsD X p E F0 H0 [] gNext := pss_imp pss_nil fun D σ H ⟨F, ρ, s, st, q⟩ => q F σ H (Ex.refl F) st
theorem psd_pass {pos} : PSD X p E F0 H0 (.Pass pos) gNext := ps_imp ps_pass fun D σ H ⟨F, ρ, s, st, q⟩ => q F σ H (Ex.refl F) st
theorem psd_brk {pos} : PSD X p E F0 H0 (.Break pos) gBrk := ps_imp ps_break fun D σ H ⟨F, ρ, s, st, q⟩ => q F σ H (Ex.refl F) st
theorem psd_cont {pos} : PSD X p E F0 H0 (.Continue pos) gCont := ps_imp ps_continue fun D σ H ⟨F, ρ, s, st, q⟩ => q F σ H (Ex.refl F) st
theorem psd_one {st : Stmt} {g : SM} (h : PSD X p E F0 H0 st g) : PSsD X p E F0 H0 [st] g := pss_one h
theorem psd_cons {st : Stmt} {rest : List Stmt} {g k : SM} (h1 : PSD X p E F0 H0 st g) (h2 : PSsD X p E F0 H0 rest k) : PSsD X p E F0 H0 (st :: rest) (gSeq g k) :=
  pss_imp (pss_cons h1 h2) fun D σ H ⟨F, ρ, s, st, q⟩ => by
    refine ⟨F, ρ, s, st, ?_⟩
    unfold gSeq at q
    cases hg : g ρ s with
    | nx ρ' s' =>
      rw [hg] at q
      exact fun F' σ' H' e st' => ⟨F', ρ', s', st', PostS.base q e⟩
    | rt d s' => rw [hg] at q; exact q
    | bk ρ s' => rw [hg] at q; exact q
    | ct ρ s' => rw [hg] at q; exact q
    | ex e => rw [hg] at q; exact q
    | un => rw [hg] at q; exact q
theorem psd_ret {e : Expr} {f : EM} {ms : List Nat} {pos : Pos} (hp : ∀ a, p = some (.sp a) → H0 a ≠ none) (h : PED X p E e f) : PSD X p E F0 H0 (.Return (some e) pos) (gRet ms f) :=
  ps_imp (ps_ret h) fun D σ H ⟨F, ρ, s, st, q⟩ => expr_run hp st q fun d s' F2 v H2 st2 _ _ hv q2 => q2 F2 v H2 st2.ext st2.sr hv
theorem psd_retN {pos : Pos} : PSD X p E F0 H0 (.Return none pos) (fun _ s => .rt .none s) :=
  ps_imp ps_retN fun D σ H ⟨F, ρ, s, st, q⟩ => q F .non H st.ext st.sr .non
theorem psd_if {c : Expr} {a b : List Stmt} {g : TM} {ga gb : SM} {ms : List Nat} {pos : Pos} (hp : ∀ a, p = some (.sp a) → H0 a ≠ none) (hc : PTD X p E c g) (ha : PSsD X p E F0 H0 a ga) (hb : PSsD X p E F0 H0 b gb) : PSD X p E F0 H0 (.If c a b pos) (gIf ms g ga gb) :=
  ps_imp (ps_if hc ha hb) fun D σ H ⟨F, ρ, s, st, q⟩ => expr_run hp st q fun d s' F2 v H2 _ _ ⟨F', st', e'⟩ hv q2 => by
    have hv' : v = d := hv
    subst hv'
    cases v with
    | true => exact iteT ⟨F', ρ, s', st', PostS.base q2 e'⟩
    | false => exact iteF ⟨F', ρ, s', st', PostS.base q2 e'⟩
theorem psd_drop {e : Expr} {f : EM} {ms : List Nat} {pos : Pos} (hp : ∀ a, p = some (.sp a) → H0 a ≠ none) (h : PED X p E e f) (hs : swapsWith e none pos.line X.env = pure false := by rfl) : PSD X p E F0 H0 (.Expr e pos) (gDrop ms f) :=
  ps_imp (ps_expr h hs) fun D σ H ⟨F, ρ, s, st, q⟩ => expr_run hp st q fun d s' F2 v H2 _ _ ⟨F', st', e'⟩ hv q2 => q2 F' σ H2 e' st'
/-- raise C('..') -/
theorem psd_raise {x m : Str} {j : Nat} {p1 p2 pos pos' : Pos} {bmB : List Value} {B newId initId : String} {W : WX} (Fx : ExcBaseFacts B newId initId bmB) (qx : PySem.W.excIn X.K (He.ga X.K x) bmB newId = true) (gC : X.mg x = some (.ref (He.ga X.K x))) (kC : PySem.W.keepIn X.K (.ref (He.ga X.K x)) = true) (r : Raises X (.ref (He.ga X.K x))) (hg : Gl X x)
    (hc : X.calm = true) (tk : L2N.Takes X W) (hW : ∀ cls d σ H, E cls d H → W cls d σ H) (hdb : (x == ("__debug__" : Str)) = false := by decide) : PSD X p E F0 H0 (.Raise (some (.Call (.Name x p1) [.Constant (.str m) j p2] [] pos')) none pos) (gRaise x) :=
  ps_imp (L2N.ps_raise hc tk (L2N.pmk_own Fx qx gC kC r hg hdb)) fun D σ H ⟨F, ρ, s, st, q⟩ => hW _ _ _ _ (show E (.ref (He.ga X.K x)) none H from q F H (Ex.refl F) st.ext)

/-! ### targets, assignments -/
abbrev TgM := D → List L → Option (List L)
abbrev TgsM := List D → List L → Option (List L)
def tgD (X : Cx) (H0 : Hp) (t : TgM) : TG := fun v σ H Q => ∃ F ρ d, RelL X.gc F H H0 σ ρ ∧ Ex F H ∧ DD X.gc F v d ∧ ∃ ρ', t d ρ = some ρ' ∧ ∀ σ', RelL X.gc F H H0 σ' ρ' → Q σ' H
def tgsD (X : Cx) (H0 : Hp) (t : TgsM) : TGs := fun v σ H Q => ∃ F ρ d, RelL X.gc F H H0 σ ρ ∧ Ex F H ∧ DDs X.gc F v d ∧ ∃ ρ', t d ρ = some ρ' ∧ ∀ σ', RelL X.gc F H H0 σ' ρ' → Q σ' H
abbrev PGD (X : Cx) (H0 : Hp) (e : Expr) (t : TgM) : Prop := PG X e (tgD X H0 t)
abbrev PGsD (X : Cx) (H0 : Hp) (e : List Expr) (t : TgsM) : Prop := PGs X e (tgsD X H0 t)
theorem pg_imp {X : Cx} {e : Expr} {t t' : TG} (h : PG X e t) (k : ∀ v σ H Q, t' v σ H Q → t v σ H Q) : PG X e t' := ⟨fun pins s σ H v u Q I r hw => h.run pins s σ H v u Q I r (k v σ H Q hw)⟩
theorem pgs_imp {X : Cx} {e : List Expr} {t t' : TGs} (h : PGs X e t) (k : ∀ v σ H Q, t' v σ H Q → t v σ H Q) : PGs X e t' := ⟨fun pins s σ H v u Q I r hw => h.run pins s σ H v u Q I r (k v σ H Q hw)⟩
def tgN (i : Nat) : TgM := fun d ρ => some (ρ.set i (.d d))
def tgsNil : TgsM := fun ds ρ => match ds with
  | [] => some ρ
  | _ => none
def tgsCons (t : TgM) (r : TgsM) : TgsM := fun ds ρ => match ds with
  | d :: ds => (t d ρ).bind (r ds)
  | [] => none
def tgT (n : Nat) (r : TgsM) : TgM := fun d ρ => match d with
  | .tuple ds => if ds.length = n then r ds ρ else none
  | _ => none
theorem pgd_name {i : Nat} {e : Expr} (h : PG X e (gName i)) : PGD X H0 e (tgN i) := pg_imp h fun v σ H Q ⟨F, ρ, d, R, e, hv, ρ', e1, k⟩ => by
  cases e1
  exact k _ (R.setD i hv)
theorem pgsd_nil : PGsD X H0 [] tgsNil := pgs_imp pgs_nil fun v σ H Q ⟨F, ρ, d, R, e, hv, ρ', e1, k⟩ => by
  cases d with
  | nil => cases hv; cases e1; exact ⟨rfl, k _ R⟩
  | cons _ _ => cases e1
theorem pgsd_cons {e : Expr} {es : List Expr} {t : TgM} {u : TgsM} (h1 : PGD X H0 e t) (h2 : PGsD X H0 es u) (hs : (assignEach (e :: es) X.env).map (·.2) = assign e X.env :: (assignEach es X.env).map (·.2) := by rfl) : PGsD X H0 (e :: es) (tgsCons t u) :=
  pgs_imp (pgs_cons h1 h2 hs) fun v σ H Q ⟨F, ρ, d, R, e, hv, ρ', e1, k⟩ => by
    cases hv with
    | nil => cases e1
    | @cons v vs d ds a b =>
      have e1' : (t d ρ).bind (u ds) = some ρ' := e1
      cases q : t d ρ with
      | none => rw [q] at e1'; cases e1'
      | some ρ1 =>
        rw [q] at e1'
        exact ⟨_, _, rfl, F, ρ, d, R, e, a, ρ1, q, fun σ' R' => ⟨F, ρ1, ds, R', e, b, ρ', e1', k⟩⟩
theorem pgd_tup {es : List Expr} {k : Nat} {u : TgsM} {n : Nat} {pos : Pos} (hc : X.calm = true) (h : PGsD X H0 es u) (hn : (assignEach es X.env).length = n := by rfl) (hst : (assignEach es X.env).findIdx? (·.1) = none := by rfl) : PGD X H0 (.Tuple es k pos) (tgT n u) :=
  pg_imp (pg_tup hc h hn hst) fun v σ H Q ⟨F, ρ, d, R, e, hv, ρ', e1, k⟩ => by
    cases hv with
    | @tup a xs ds h1 h2 =>
      have e1' : (if ds.length = n then u ds ρ else none) = some ρ' := e1
      by_cases q : ds.length = n
      · rw [if_pos q] at e1'
        exact ⟨a, xs, rfl, ex_t e h1, h2.len.trans q, F, ρ, ds, R, e, h2, ρ', e1', k⟩
      · rw [if_neg q] at e1'; cases e1'
    | _ => simp [tgT] at e1
def flat : D → Bool
  | .none => true | .bool _ => true | .int _ => true | .str _ => true
  | _ => false
theorem flat_dd {G : GC} {F F' : Hp} {v : V} {d : D} (h : DD G F v d) (f : flat d = true) : DD G F' v d := by
  cases h with
  | non => exact .non
  | bl b => exact .bl b
  | int b => exact .int b
  | str b => exact .str b
  | lst _ _ => cases f
  | tup _ _ => cases f
  | dct _ _ _ => cases f
  | opq _ => cases f
def flO (o : Option (List L)) (s : List D) : Fl := match o with
  | some ρ => .nx ρ s
  | none => .un
@[simp] theorem flO_some (ρ : List L) (s : List D) : flO (some ρ) s = .nx ρ s := rfl
def gAsg (ms : List Nat) (f : EM) (t : TgM) : SM := fun ρ s => exprS (f (vw (fz ms ρ)) s) fun d s' => flO (t d (if flat d then ρ else fz ms ρ)) s'
theorem psd_asg {tg e : Expr} {f : EM} {t : TgM} {ms : List Nat} {pos : Pos} (hp : ∀ a, p = some (.sp a) → H0 a ≠ none) (he : PED X p E e f) (hg : PGD X H0 tg t) (hs : swapsWithSole [tg] e pos.line X.env = pure false := by rfl) (hw : swappedStores [tg] e X.env = pure none := by rfl)
    (h1 : (assignEach [tg] X.env).map (·.2) = [assign tg X.env] := by rfl) : PSD X p E F0 H0 (.Assign [tg] e pos) (gAsg ms f t) :=
  ps_imp (ps_asg he hg hs hw h1) fun D σ H ⟨F, ρ, s, st, q⟩ => expr_run hp st q fun d s' F2 v H2 st2 e2 ⟨F', st', e'⟩ hv q2 => by
    cases hf : flat d with
    | true =>
      rw [hf, if_pos rfl] at q2
      cases ht : t d ρ with
      | none => rw [ht] at q2; exact q2.elim
      | some ρ' =>
        rw [ht] at q2
        exact ⟨F', ρ, d, st'.rl, st'.ext.fh, flat_dd hv hf, ρ', ht, fun σ' R' => q2 F' σ' H2 e' ⟨st'.ext, st'.sr, R'⟩⟩
    | false =>
      rw [hf, if_neg Bool.false_ne_true] at q2
      cases ht : t d (fz ms ρ) with
      | none => rw [ht] at q2; exact q2.elim
      | some ρ' =>
        rw [ht] at q2
        exact ⟨F2, fz ms ρ, d, st2.rl, st2.ext.fh, hv, ρ', ht, fun σ' R' => q2 F2 σ' H2 e2 ⟨st2.ext, st2.sr, R'⟩⟩
/-- x = a list displayed, one's own -/
def gAsgL (ms : List Nat) (f : AM) (i : Nat) : SM := fun ρ s => exprS (f (vw (fz ms ρ)) s) fun ds s' => if small ds.length then .nx ((fz ms ρ).set i (.own (.lst ds))) s' else .un
theorem psd_asgL {es : List Expr} {f : AM} {i : Nat} {tg : Expr} {ms : List Nat} {pos pos' : Pos} (hp : ∀ a, p = some (.sp a) → H0 a ≠ none) (he : PAD X p E es f) (hg : PG X tg (gName i)) (hs : swapsWithSole [tg] (.List es pos') pos.line X.env = pure false := by rfl) (hw : swappedStores [tg] (.List es pos') X.env = pure none := by rfl)
    (h1 : (assignEach [tg] X.env).map (·.2) = [assign tg X.env] := by rfl) : PSD X p E F0 H0 (.Assign [tg] (.List es pos') pos) (gAsgL ms f i) :=
  ps_imp (ps_asg (pe_lst he) hg hs hw h1) fun D σ H ⟨F, ρ, s, st, q⟩ => expr_run hp st q fun d s' F2 v H2 st2 e2 _ hv q2 => by
    cases hz : small d.length with
    | false => rw [hz, if_neg Bool.false_ne_true] at q2; exact q2.elim
    | true =>
      rw [hz, if_pos rfl] at q2
      refine ⟨Nat.le_of_lt (by rw [DDs.len hv]; exact small_line hz), fun a ha => ?_⟩
      have hF : F2 a = none := by
        cases z : F2 a with
        | none => rfl
        | some o => rw [st2.ext.fh a o z] at ha; cases ha
      have hH0 : H0 a = none := by
        cases z : H0 a with
        | none => rfl
        | some o => exact absurd ha (st2.ext.dom a (by rw [z]; simp))
      have hE : Ext X.gc p F2 H2 F2 (upd H2 a (.lst v)) := Ext.mine st2.ext.fh ha
      have hR : RelL X.gc F2 (upd H2 a (.lst v)) H0 σ (fz ms ρ) := st2.rl.mono (Ex.refl F2) fun j b hb => by
        obtain ⟨c, _, _, q2, q3, q4⟩ := st2.rl.owned hb
        obtain ⟨o, ho⟩ := q4.there
        exact ⟨q2, fun o' h' _ => by rw [upd_ne (ne_of_none h' ha)]; exact h'⟩
      refine q2 F2 _ _ e2 ⟨st2.ext.trans hE, ?_, hR.setO i hF hH0 ⟨v, upd_same, hv⟩ fun j _ hj => ?_⟩
      · exact st2.sr.put (st2.sr.ne ha) (.new ha)
      · obtain ⟨c, _, _, _, _, q4⟩ := st2.rl.owned hj
        obtain ⟨o, ho⟩ := q4.there
        rw [ha] at ho; cases ho
/-- x.append(e) -/
def gApp (ms : List Nat) (i : Nat) (f : EM) : SM := fun ρ s => match ρ[i]? with
  | some (.own (.lst xs)) => exprS (f (vw (fz ms ρ)) s) fun d s' => if small (xs.length + 1) && !ms.contains i then .nx ((if flat d then ρ else fz ms ρ).set i (.own (.lst (xs ++ [d])))) s' else .un
  | _ => .un
theorem RelL.putO {G : GC} {F H H0 : Hp} {σ : L2.St} {ρ : List L} (R : RelL G F H H0 σ ρ) {i : Nat} {a : Addr} {c : Cell} {o : HO} (h0 : oad σ[i]? ρ[i]? = some a) (h3 : CellAt G F (upd H a o) a c) : RelL G F (upd H a o) H0 σ (ρ.set i (.own c)) := by
  obtain ⟨c0, e1, e2, q2, q3, q4⟩ := R.owned h0
  have eσ : σ.set i (some (.ref a)) = σ := List.ext_getElem? fun j => by
    rw [get_set]
    by_cases q : i = j ∧ i < σ.length
    · rw [if_pos q, ← q.1, e2]
    · rw [if_neg q]
  have hi : i < ρ.length := (List.getElem?_eq_some_iff.mp e1).1
  have e := R.len
  refine ⟨by rw [List.length_set]; exact e, fun j l hl => ?_, fun j k b hj hk => ?_⟩
  · rw [get_set] at hl
    by_cases q : i = j ∧ i < ρ.length
    · rw [if_pos q] at hl
      cases hl
      rw [← q.1, e2]
      exact ⟨a, rfl, q2, q3, h3⟩
    · rw [if_neg q] at hl
      have hj := R.at_ j l hl
      cases l with
      | un => trivial
      | d x => exact hj
      | own c' =>
        obtain ⟨b, g1, g2, g3, g4⟩ := hj
        refine ⟨b, g1, g2, g3, g4.mono (Ex.refl F) fun o' h' _ => ?_⟩
        have nb : b ≠ a := fun z => by
          have ej : oad σ[j]? ρ[j]? = some a := by rw [hl, g1, z]; rfl
          exact q ⟨R.sep i j a h0 ej, hi⟩
        rw [upd_ne nb]; exact h'
  · have g : ∀ j b, oad σ[j]? (ρ.set i (.own c))[j]? = some b → oad σ[j]? ρ[j]? = some b := fun j b hj => by
      rw [get_set] at hj
      by_cases q : i = j ∧ i < ρ.length
      · rw [if_pos q, ← q.1, e2] at hj
        cases hj
        rw [← q.1]
        exact h0
      · rw [if_neg q] at hj; exact hj
    exact R.sep j k b (g j b hj) (g k b hk)
theorem fz_other {ms : List Nat} {ρ : List L} {i : Nat} (h : ms.contains i = false) : (fz ms ρ)[i]? = ρ[i]? := by
  rw [fz_get]
  cases ρ[i]? with
  | none => rfl
  | some l =>
    cases l with
    | un => rfl
    | d x => rfl
    | own c =>
      have h' : ¬ i ∈ ms := by simpa using h
      show some (frz ms i (.own c)) = _
      rw [frz_out h']
theorem psd_app {e x : Expr} {f : EM} {i : Nat} {ms : List Nat} {pos pos' apos : Pos} (hp : ∀ a, p = some (.sp a) → H0 a ≠ none) (hx : PE X x (tVar i)) (h : PED X p E e f)
    (h1 : PE X x (tVar i) → PE X e (tD X.gc p E f) → PS X (.Expr (.Call (.Attribute x "append" apos) [e] [] pos') pos) (tDrop (tBM X.K "list" rAppend (tVar i) (tCons (tD X.gc p E f) tNil)))) : PSD X p E F0 H0 (.Expr (.Call (.Attribute x "append" apos) [e] [] pos') pos) (gApp ms i f) :=
  ps_imp (h1 hx h) fun D σ H ⟨F, ρ, s, st, q⟩ => by
    unfold gApp at q
    cases hi : ρ[i]? with
    | none => rw [hi] at q; exact q.elim
    | some l =>
      rw [hi] at q
      cases l with
      | un => exact q.elim
      | d _ => exact q.elim
      | own c =>
        cases c with
        | dct _ => exact q.elim
        | lst xs =>
          obtain ⟨a, g1, g2, g3, vs, g4, g5⟩ := st.rl.at_ i _ hi
          refine ⟨.ref a, g1, .inl ⟨rfl, vs, SqL.of g4⟩, ?_⟩
          refine expr_run hp st q fun d s' F2 v H2 st2 e2 ⟨F', st', e'⟩ hv q2 => ?_
          cases hz : (small (xs.length + 1) && !ms.contains i) with
          | false => rw [hz, if_neg Bool.false_ne_true] at q2; exact q2.elim
          | true =>
            rw [hz, if_pos rfl] at q2
            obtain ⟨z1, z2⟩ := band hz
            have z2' : ms.contains i = false := by simpa using z2
            have fin : ∀ (F3 : Hp) (ρ3 : List L), St7 X p F0 H0 F3 H2 σ ρ3 s' → Ex F F3 → ρ3[i]? = ρ[i]? → DD X.gc F3 v d → (∀ F σ' H', Ex F3 F → St7 X p F0 H0 F H' σ' (ρ3.set i (.own (.lst (xs ++ [d])))) s' → D.nx σ' H') → ∃ l' xs' y, V.ref a = .ref l' ∧ [v] = [y] ∧ H2 l' = some (.lst xs') ∧ xs'.length < sizeLine ∧ D.nx σ (upd H2 l' (.lst (xs' ++ [y]))) := fun F3 ρ3 st3 e3 hr hv3 k => by
              have o3 : oad σ[i]? ρ3[i]? = some a := by rw [hr, hi, g1]; rfl
              obtain ⟨c, c1, c2, c3, c4, c5⟩ := st3.rl.owned o3
              rw [hr, hi] at c1
              cases c1
              obtain ⟨vs', g6, g7⟩ := c5
              refine ⟨a, vs', v, rfl, rfl, g6, by rw [g7.len]; exact Nat.lt_of_succ_lt (small_line z1), k F3 _ _ (Ex.refl F3) ⟨⟨st3.ext.ff, fun b o hb => ?_, st3.ext.own, fun b o n hb w => ?_, fun b hb => ?_, fun t => (st3.ext.tb t).put (.lst g6)⟩, ?_, st3.rl.putO o3 ⟨_, upd_same, g7.app (DDs.one hv3)⟩⟩⟩
              · rw [upd_ne (ne_of_none hb c3)]; exact st3.ext.fh b o hb
              · rw [upd_ne (ne_of_none hb c4)]; exact st3.ext.st b o n hb w
              · by_cases q : b = a
                · rw [q, upd_same]; simp
                · rw [upd_ne q]; exact st3.ext.dom b hb
              · exact st3.sr.put (fun z => hp a z.symm c4) (.lst g6)
            cases hf : flat d with
            | true =>
              rw [hf, if_pos rfl] at q2
              exact fin F' ρ st' e' rfl (flat_dd hv hf) fun F σ' H' e3 st3 => q2 F σ' H' (e'.trans e3) st3
            | false =>
              rw [hf, if_neg Bool.false_ne_true] at q2
              exact fin F2 (fz ms ρ) st2 e2 (fz_other z2') hv fun F σ' H' e3 st3 => q2 F σ' H' (e2.trans e3) st3
end
end DL
end

section
set_option Elab.async false
set_option linter.all false
set_option maxRecDepth 100000
set_option maxHeartbeats 4000000
/-! The data layer, part 8: what is walked, loops, comprehensions, defs. -/
namespace DL
open PySem PySem.Spec PyProof.Rows L2
/-! ### what is walked -/
structure Wk (G : GC) (F' : Hp) (J : It) (xs : List D) : Prop where
  ex : ∃ (Gd : Hp → Prop) (Y : Nat → Hp → V → Hp → Prop), Walk J xs.length Gd Y ∧ ∀ F2 H2, Ex F' F2 → Ex F2 H2 → Gd H2 ∧ ∀ i x H3, i < xs.length → Y i H2 x H3 → ∃ F3 d, Ext G none F2 H2 F3 H3 ∧ xs[i]? = some d ∧ DD G F3 x d
abbrev WM := Rho → List D → R (List D × List D)
def iD (G : GC) (p : Option PQ) (E : XK) (f : WM) : TI := fun σ H Q => ∃ F ρ s, Pre G p F H σ ρ s ∧ Post G p E F H (f ρ s) (fun F' _ (J : It) xs => Wk G F' J xs) Q
abbrev PID (X : Cx) (p : Option PQ) (E : XK) (tg e : Expr) (f : WM) : Prop := PI X tg e (iD X.gc p E f)
theorem pi_imp {X : Cx} {tg e : Expr} {t t' : TI} (h : PI X tg e t) (k : ∀ σ H Q, t' σ H Q → t σ H Q) : PI X tg e t' := ⟨fun pins s σ H Q I hw => h.run pins s σ H Q I (k σ H Q hw)⟩
/-- a list or a tuple -/
def iSeq (K : PySem.W.Frag) (tl : TE) : TI := fun σ H R => tl σ H fun x H1 => ∃ a, x = .ref a ∧ (((∃ xs, SqL K H1 a xs) ∧ R (Itl K a) H1) ∨ ((∃ xs, SqT K H1 a xs) ∧ R (Itt K a) H1))
section
variable {X : Cx} {p : Option PQ} {E : XK} {F0 H0 F H : Hp} {σ : L2.St} {tg : Expr}
theorem pi_seq {l : Expr} {tl : TE} (hl : PE X l tl) : PI X tg l (iSeq X.K tl) := by
  refine ⟨fun pins s σ H R I h => ?_⟩
  refine thn (hl.run pins s σ H _ I h) fun v s1 ⟨x, H1, I1, r1, q1⟩ => ?_
  obtain ⟨a, e, q⟩ := q1
  subst e
  cases r1
  rcases q with ⟨⟨xs, hq⟩, q⟩ | ⟨⟨xs, hq⟩, q⟩
  · obtain ⟨its, rv, p, hz⟩ := I1.list hq
    refine wpAny_pyIter_list p.isList ?_
    refine ⟨s1.heap.objs.size, [s1.heap.objs.size], _, _, H1, rfl, I1.kept (t' := s1.toks) fun b o e => Heap.get?_push_of_some _ e, turn_list a _, ⟨_, Heap.get?_push_size _ rfl, rfl, rfl⟩, fun b hb => ?_, q⟩
    have e : b = s1.heap.objs.size := by simpa using hb
    subst e
    exact I1.fpOk (Nat.le_refl _) (I1.hok.fresh (Nat.le_refl _))
  · obtain ⟨its, rv, p, hz⟩ := I1.tuple hq
    refine wpAny_pyIter_tuple (show s1.heap.IsTuple a its.toArray from p) ?_
    refine ⟨s1.heap.objs.size, [s1.heap.objs.size], _, _, H1, rfl, I1.kept (t' := s1.toks) fun b o e => Heap.get?_push_of_some _ e, turn_tuple a _, ⟨_, Heap.get?_push_size _ rfl, rfl, rfl⟩, fun b hb => ?_, q⟩
    have e : b = s1.heap.objs.size := by simpa using hb
    subst e
    exact I1.fpOk (Nat.le_refl _) (I1.hok.fresh (Nat.le_refl _))
theorem wk_list {G : GC} {F' : Hp} {a : Addr} {xs : List V} {ds : List D} (h : SqL G.K F' a xs) (hd : DDs G F' xs ds) : Wk G F' (Itl G.K a) ds :=
  ⟨_, _, by rw [← hd.len]; exact walk_list (K := G.K) (a := a) (xs := xs), fun F2 H2 e1 e2 => ⟨ex_l e2 (ex_l e1 h), fun i x H3 hi y => by
    obtain ⟨rfl, hx⟩ := y
    obtain ⟨d, h1, h2⟩ := hd.get' hx
    exact ⟨F2, d, Ext.refl e2, h1, h2.ex e1⟩⟩⟩
theorem wk_tup {G : GC} {F' : Hp} {a : Addr} {xs : List V} {ds : List D} (h : SqT G.K F' a xs) (hd : DDs G F' xs ds) : Wk G F' (Itt G.K a) ds :=
  ⟨_, _, by rw [← hd.len]; exact walk_tup (K := G.K) (a := a) (xs := xs), fun F2 H2 e1 e2 => ⟨ex_t e2 (ex_t e1 h), fun i x H3 hi y => by
    obtain ⟨rfl, hx⟩ := y
    obtain ⟨d, h1, h2⟩ := hd.get' hx
    exact ⟨F2, d, Ext.refl e2, h1, h2.ex e1⟩⟩⟩
def wSeq (f : EM) : WM := fun ρ s => (f ρ s).bind fun z => ofO (itemsOf z.1) z.2
theorem pid_seq {e : Expr} {f : EM} (h : PED X p E e f) : PID X p E tg e (wSeq f) :=
  pi_imp (pi_seq h) fun σ H Q ⟨F, ρ, s, pre, post⟩ => ⟨F, ρ, s, pre, Post.bind post fun d1 s1 F1 x H1 e1 x1 r1 q1 post1 => by
    obtain ⟨z, ez, post2⟩ := ofO_post post1
    cases q1 with
    | lst h1 h2 =>
      cases ez
      exact ⟨_, rfl, .inl ⟨⟨_, ex_l x1.fh h1⟩, Post.okI post2 x1.fh r1 (wk_list h1 h2)⟩⟩
    | tup h1 h2 =>
      cases ez
      exact ⟨_, rfl, .inr ⟨⟨_, ex_t x1.fh h1⟩, Post.okI post2 x1.fh r1 (wk_tup h1 h2)⟩⟩
    | _ => simp [itemsOf] at ez⟩
def rgD (lo hi : Int) : List D := (List.range (hi - lo).toNat).map fun (i : Nat) => .int (lo + i)
def rgOk (lo hi : Int) : Bool := decide (lo.natAbs < 2 ^ 62) && decide (hi.natAbs < 2 ^ 62)
theorem rgOk_is {lo hi : Int} (h : rgOk lo hi = true) : (-(2 ^ 62) ≤ lo ∧ lo < 2 ^ 62) ∧ -(2 ^ 62) ≤ hi ∧ hi < 2 ^ 62 := by
  obtain ⟨a, b⟩ := band h
  have a := of_decide_eq_true a
  have b := of_decide_eq_true b
  omega
def rng1 : List D → Option (List D)
  | [.int j] => if rgOk 0 j then some (rgD 0 j) else none
  | _ => none
def rng2 : List D → Option (List D)
  | [.int i, .int j] => if rgOk i j then some (rgD i j) else none
  | _ => none
theorem wk_rng {G : GC} {F' : Hp} {lo hi : Int} : Wk G F' (Itr lo (hi - lo).toNat) (rgD lo hi) := by
  have e : (rgD lo hi).length = (hi - lo).toNat := by unfold rgD; rw [List.length_map, List.length_range]
  refine ⟨_, _, by rw [e]; exact walk_range, fun F2 H2 e1 e2 => ⟨trivial, fun i x H3 hi y => ?_⟩⟩
  obtain ⟨rfl, hx⟩ := y
  refine ⟨F2, .int (lo + i), Ext.refl e2, ?_, by rw [hx]; exact .int _⟩
  unfold rgD
  rw [List.getElem?_map, List.getElem?_range (by rw [e] at hi; exact hi)]
  rfl
def wRng (r : List D → Option (List D)) (f : AM) : WM := fun ρ s => (f ρ s).bind fun z => ofO (r z.1) z.2
theorem ifSomeL {α : Type} {c : Bool} {a z : α} (h : (if c = true then some a else none) = some z) : c = true ∧ a = z := ifSome h
theorem rng1_some {ds z : List D} (h : rng1 ds = some z) : ∃ j, ds = [.int j] ∧ rgOk 0 j = true ∧ rgD 0 j = z := by
  unfold rng1 at h
  split at h
  · obtain ⟨a, b⟩ := ifSome h; exact ⟨_, rfl, a, b⟩
  · cases h
theorem rng2_some {ds z : List D} (h : rng2 ds = some z) : ∃ i j, ds = [.int i, .int j] ∧ rgOk i j = true ∧ rgD i j = z := by
  unfold rng2 at h
  split at h
  · obtain ⟨a, b⟩ := ifSome h; exact ⟨_, _, rfl, a, b⟩
  · cases h
theorem pid_range1 {a : Expr} {f : AM} {q pos : Pos} (hg : Gl X "range") (hm : X.mg "range" = none) (ha : PAD X p E [a] f) (hs : starEach [a] X.env = [(false, eval a X.env)] := by rfl) : PID X p E tg (.Call (.Name "range" q) [a] [] pos) (wRng rng1 f) :=
  pi_imp (pi_range1 hg hm ha hs) fun σ H Q ⟨F, ρ, s, pre, post⟩ => ⟨F, ρ, s, pre, Post.bind post fun d1 s1 F1 x H1 e1 x1 r1 q1 post1 => by
    obtain ⟨z, ez, post2⟩ := ofO_post post1
    obtain ⟨j, e1, hs, e2⟩ := rng1_some ez
    have e1' : d1 = [.int j] := e1
    subst e1' e2
    obtain ⟨_, a3, a4⟩ := rgOk_is hs
    obtain ⟨v, rfl, hv⟩ := q1.one_inv
    refine ⟨j, by rw [hv.inv_int], a3, a4, Post.okI post2 x1.fh r1 ?_⟩
    have := wk_rng (G := X.gc) (F' := F1) (lo := 0) (hi := j)
    rw [Int.sub_zero] at this
    exact this⟩
theorem pid_range2 {a b : Expr} {f : AM} {q pos : Pos} (hg : Gl X "range") (hm : X.mg "range" = none) (ha : PAD X p E [a, b] f) (hs : starEach [a, b] X.env = [(false, eval a X.env), (false, eval b X.env)] := by rfl) (hs2 : starEach [b] X.env = [(false, eval b X.env)] := by rfl) : PID X p E tg (.Call (.Name "range" q) [a, b] [] pos) (wRng rng2 f) :=
  pi_imp (pi_range2 hg hm ha hs hs2) fun σ H Q ⟨F, ρ, s, pre, post⟩ => ⟨F, ρ, s, pre, Post.bind post fun d1 s1 F1 x H1 e1 x1 r1 q1 post1 => by
    obtain ⟨z, ez, post2⟩ := ofO_post post1
    obtain ⟨i, j, e1, hs, e2⟩ := rng2_some ez
    have e1' : d1 = [.int i, .int j] := e1
    subst e1' e2
    obtain ⟨⟨a1, a2⟩, a3, a4⟩ := rgOk_is hs
    obtain ⟨v, w, rfl, hv, hw⟩ := q1.two_inv
    exact ⟨i, j, by rw [hv.inv_int, hw.inv_int], ⟨a1, a2, a3, a4⟩, Post.okI post2 x1.fh r1 wk_rng⟩⟩
/-! ### for -/
def loopF (t : TgM) (b : SM) : List D → SM
  | [], ρ, s => .nx ρ s
  | d :: r, ρ, s => match t d ρ with
    | none => .un
    | some ρ1 => match b ρ1 s with
      | .nx ρ2 s2 => loopF t b r ρ2 s2
      | .ct ρ2 s2 => loopF t b r ρ2 s2
      | .bk ρ2 s2 => .nx ρ2 s2
      | o => o
def gFor (ms : List Nat) (f : WM) (t : TgM) (b : SM) : SM := fun ρ s => exprS (f (vw (fz ms ρ)) s) fun xs s' => loopF t b xs (fz ms ρ) s'
theorem pi_post {W : It → Hp → Prop} {f : WM} (h : ∃ F ρ' s, Pre X.gc p F H σ ρ' s ∧ Post X.gc p E F H (f ρ' s) (fun F' _ (J : It) xs => Wk X.gc F' J xs) W) : iD X.gc p E f σ H W := h
theorem psd_for {iter : Expr} {body : List Stmt} {f : WM} {t : TgM} {b : SM} {ms : List Nat} {pos : Pos} (hp : ∀ a, p = some (.sp a) → H0 a ≠ none) (ho : PassesOwn (model X.prog X.w) X.A X.env X.xe) (hc : X.calm = true) (hi : PID X p E tg iter f) (hg : PGD X H0 tg t) (hb : PSsD X p E F0 H0 body b)
    (hs : ∀ x, foldedSetIterable iter X.env x = pure x := by intro _; rfl) : PSD X p E F0 H0 (.For tg iter body [] pos) (gFor ms f t b) :=
  ps_imp (ps_for ho hc hi hg hb hs) fun En σ H ⟨F, ρ, s, st, q⟩ => expr_run hp st q fun xs s' F2 J H2 st2 e2 _ hv q2 => by
    obtain ⟨Gd, Y, wk, items⟩ := hv.ex
    refine for_it wk (fun i σ H => ∃ F ρ s, St7 X p F0 H0 F H σ ρ s ∧ Ex F2 F ∧ PostS X p E F0 H0 F2 (loopF t b (xs.drop i) ρ s) { nx := En.nx, rt := En.rt, bk := En.bk, ct := En.ct }) ⟨F2, _, s', st2, Ex.refl F2, PostS.base q2 e2⟩ (fun i σ H _ ⟨F, ρ, s, st, e, _⟩ => (items F H e st.ext.fh).1) (fun i x σ H H' hi ⟨F, ρ, s, st, e, q3⟩ y => ?_) fun σ H ⟨F, ρ, s, st, e, q3⟩ => ?_
    · obtain ⟨F3, d, x3, hd, hx⟩ := (items F H e st.ext.fh).2 i x H' hi y
      obtain ⟨hlt, hd'⟩ := List.getElem?_eq_some_iff.mp hd
      rw [List.drop_eq_getElem_cons hlt, hd'] at q3
      unfold loopF at q3
      cases ht : t d ρ with
      | none => rw [ht] at q3; exact q3.elim
      | some ρ1 =>
        rw [ht] at q3
        have rl3 : RelL X.gc F3 H' H0 σ ρ := st.rl.mono x3.ff fun j a ha => by
          obtain ⟨c, _, _, g2, g3, g4⟩ := st.rl.owned ha
          obtain ⟨o, ho⟩ := g4.there
          exact ⟨(x3.own a (by rw [ho]; simp)).trans g2, fun o' h' => x3.ex a o' h'⟩
        refine ⟨F3, ρ, d, rl3, x3.fh, hx, ρ1, ht, fun σ' R' => ?_⟩
        have st3 : St7 X p F0 H0 F3 H' σ' ρ1 s := ⟨st.ext.trans x3.weak, st.sr.ext x3, R'⟩
        refine ⟨F3, ρ1, s, st3, ?_⟩
        have q4 : PostS X p E F0 H0 F2 (match b ρ1 s with
          | .nx ρ2 s2 => loopF t b (xs.drop (i + 1)) ρ2 s2
          | .ct ρ2 s2 => loopF t b (xs.drop (i + 1)) ρ2 s2
          | .bk ρ2 s2 => .nx ρ2 s2
          | o => o) { nx := En.nx, rt := En.rt, bk := En.bk, ct := En.ct } := q3
        have e3 : Ex F2 F3 := e.trans x3.ff
        cases hb : b ρ1 s with
        | nx ρ2 s2 => rw [hb] at q4; exact fun F' σ' H' a st' => ⟨F', ρ2, s2, st', e3.trans a, q4⟩
        | ct ρ2 s2 => rw [hb] at q4; exact fun F' σ' H' a st' => ⟨F', ρ2, s2, st', e3.trans a, q4⟩
        | bk ρ2 s2 => rw [hb] at q4; exact fun F' σ' H' a st' => q4 F' σ' H' (e3.trans a) st'
        | rt d s2 => rw [hb] at q4; exact q4
        | ex e0 => rw [hb] at q4; exact fun F' H' a x => q4 F' H' (e3.trans a) x
        | un => rw [hb] at q4; exact q4
    · rw [List.drop_length] at q3
      exact q3 F σ H e st
/-! ### while -/
def whileF (ms : List Nat) (c : TM) (b : SM) : Nat → SM
  | 0, _, _ => .un
  | n + 1, ρ, s => exprS (c (vw (fz ms ρ)) s) fun k s' => if k = true then (match b ρ s' with
      | .nx ρ2 s2 => whileF ms c b n ρ2 s2
      | .ct ρ2 s2 => whileF ms c b n ρ2 s2
      | .bk ρ2 s2 => .nx ρ2 s2
      | o => o) else .nx ρ s'
def gWhile (fuel : Nat) (ms : List Nat) (c : TM) (b : SM) : SM := fun ρ s => whileF ms c b fuel ρ s
theorem psd_while {c : Expr} {body : List Stmt} {g : TM} {b : SM} {ms : List Nat} {fuel : Nat} {pos : Pos} (hp : ∀ a, p = some (.sp a) → H0 a ≠ none) (ho : PassesOwn (model X.prog X.w) X.A X.env X.xe) (hc : PTD X p E c g) (hb : PSsD X p E F0 H0 body b) : PSD X p E F0 H0 (.While c body [] pos) (gWhile fuel ms g b) :=
  ps_imp (ps_while ho hc hb) fun En σ H ⟨F, ρ, s, st, q⟩ => by
    refine ⟨fun m σ H' => ∃ F' ρ s, St7 X p F0 H0 F' H' σ ρ s ∧ PostS X p E F0 H0 F' (whileF ms g b m ρ s) { nx := En.nx, rt := En.rt, bk := En.bk, ct := En.ct }, ⟨fuel, F, ρ, s, st, q⟩, fun m σ H ⟨F', ρ, s, st, q3⟩ => ?_⟩
    cases m with
    | zero => exact q3.elim
    | succ n =>
      unfold whileF at q3
      refine expr_run hp st q3 fun d s' F2 v H2 _ _ ⟨F3, st', e'⟩ hv q2 => ?_
      have hv' : v = d := hv
      subst hv'
      cases v with
      | false => exact iteF (q2 F3 σ H2 e' st')
      | true =>
        have q4 : PostS X p E F0 H0 F' (match b ρ s' with
          | .nx ρ2 s2 => whileF ms g b n ρ2 s2
          | .ct ρ2 s2 => whileF ms g b n ρ2 s2
          | .bk ρ2 s2 => .nx ρ2 s2
          | o => o) { nx := En.nx, rt := En.rt, bk := En.bk, ct := En.ct } := q2
        refine iteT ⟨fun σ' H' => ∃ F'' ρ s, St7 X p F0 H0 F'' H' σ' ρ s ∧ PostS X p E F0 H0 F'' (whileF ms g b n ρ s) { nx := En.nx, rt := En.rt, bk := En.bk, ct := En.ct }, fun σ' H' h => ⟨n, Nat.lt_succ_self n, h⟩, F3, ρ, s', st', ?_⟩
        cases hb : b ρ s' with
        | nx ρ2 s2 => rw [hb] at q4; exact fun F'' σ' H' a st' => ⟨F'', ρ2, s2, st', PostS.base q4 (e'.trans a)⟩
        | ct ρ2 s2 => rw [hb] at q4; exact fun F'' σ' H' a st' => ⟨F'', ρ2, s2, st', PostS.base q4 (e'.trans a)⟩
        | bk ρ2 s2 => rw [hb] at q4; exact fun F'' σ' H' a st' => q4 F'' σ' H' (e'.trans a) st'
        | rt d s2 => rw [hb] at q4; exact q4
        | ex e0 => rw [hb] at q4; exact fun F'' H'' a x => q4 F'' H'' (e'.trans a) x
        | un => rw [hb] at q4; exact q4
/-! ### comprehensions -/
theorem wipe_get (σ : L2.St) (i : Nat) : ∀ vs : List Nat, (wipe σ vs)[i]? = if i ∈ vs ∧ i < σ.length then some none else σ[i]?
  | [] => by simp [wipe]
  | v :: vs => by
    unfold wipe
    rw [get_set, wipe_get σ i vs, wipe_length]
    by_cases h : v = i
    · subst h
      by_cases h2 : v < σ.length
      · simp [h2]
      · simp [h2]
    · have h' : ¬ i = v := fun z => h z.symm
      simp [h, h']
theorem wipe_set {σ : L2.St} {i : Nat} {x : Option V} {vs : List Nat} (h : i ∈ vs) : wipe (σ.set i x) vs = wipe σ vs := List.ext_getElem? fun j => by
  rw [wipe_get, wipe_get, List.length_set, get_set]
  by_cases hj : j ∈ vs ∧ j < σ.length
  · rw [if_pos hj, if_pos hj]
  · rw [if_neg hj, if_neg hj]
    by_cases q : i = j ∧ i < σ.length
    · exact absurd ⟨q.1 ▸ h, q.1 ▸ q.2⟩ hj
    · rw [if_neg q]
theorem wipe_wipe {σ : L2.St} {vs : List Nat} : wipe (wipe σ vs) vs = wipe σ vs := List.ext_getElem? fun j => by
  rw [wipe_get, wipe_length, wipe_get]
  by_cases hj : j ∈ vs ∧ j < σ.length
  · rw [if_pos hj, if_pos hj]
  · rw [if_neg hj, if_neg hj]
def wpR (ρ : Rho) (vs : List Nat) : Rho := ρ.mapIdx fun i d => if vs.contains i then none else d
theorem wpR_get (ρ : Rho) (vs : List Nat) (i : Nat) : (wpR ρ vs)[i]? = (ρ[i]?).map fun d => if vs.contains i then none else d := by
  unfold wpR
  rw [List.getElem?_mapIdx]
theorem wpR_rel {G : GC} {F : Hp} {σ : L2.St} {ρ : Rho} {vs : List Nat} (h : RelD G F σ ρ) : RelD G F (wipe σ vs) (wpR ρ vs) := fun i d q => by
  rw [wpR_get] at q
  cases e : ρ[i]? with
  | none => rw [e] at q; cases q
  | some o =>
    rw [e] at q
    have q' : (if vs.contains i then none else o) = some d := Option.some.inj q
    cases hc : vs.contains i with
    | true => rw [hc] at q'; simp at q'
    | false =>
      rw [hc] at q'
      have q2 : o = some d := by simpa using q'
      subst q2
      obtain ⟨v, h1, h2⟩ := h i d e
      refine ⟨v, ?_, h2⟩
      rw [wipe_get, if_neg (fun z => by have := z.1; simp at hc; exact hc this)]
      exact h1
abbrev RtM := D → Rho → Option Rho
def tgR (G : GC) (vs : List Nat) (t : RtM) : TG := fun v σ H Q => ∃ F ρ d, RelD G F σ ρ ∧ Ex F H ∧ DD G F v d ∧ ∃ ρ', t d ρ = some ρ' ∧ ∀ σ', wipe σ' vs = wipe σ vs → RelD G F σ' ρ' → Q σ' H
def tgsR (G : GC) (vs : List Nat) (t : List D → Rho → Option Rho) : TGs := fun v σ H Q => ∃ F ρ d, RelD G F σ ρ ∧ Ex F H ∧ DDs G F v d ∧ ∃ ρ', t d ρ = some ρ' ∧ ∀ σ', wipe σ' vs = wipe σ vs → RelD G F σ' ρ' → Q σ' H
def rtN (i : Nat) : RtM := fun d ρ => some (ρ.set i (some d))
def rtsNil : List D → Rho → Option Rho := fun ds ρ => match ds with
  | [] => some ρ
  | _ => none
def rtsCons (t : RtM) (r : List D → Rho → Option Rho) : List D → Rho → Option Rho := fun ds ρ => match ds with
  | d :: ds => (t d ρ).bind (r ds)
  | [] => none
def rtT (n : Nat) (r : List D → Rho → Option Rho) : RtM := fun d ρ => match d with
  | .tuple ds => if ds.length = n then r ds ρ else none
  | _ => none
theorem RelD.set {G : GC} {F : Hp} {σ : L2.St} {ρ : Rho} {i : Nat} {v : V} {d : D} (h : RelD G F σ ρ) (hv : DD G F v d) (hl : i < σ.length) : RelD G F (σ.set i (some v)) (ρ.set i (some d)) := fun j e q => by
  rw [get_set] at q ⊢
  by_cases z : i = j
  · subst z
    by_cases z2 : i < ρ.length
    · rw [if_pos ⟨rfl, z2⟩] at q
      cases q
      rw [if_pos ⟨rfl, hl⟩]
      exact ⟨v, rfl, hv⟩
    · rw [if_neg (fun z => z2 z.2), List.getElem?_eq_none (Nat.not_lt.mp z2)] at q
      cases q
  · rw [if_neg (fun w => z w.1)] at q ⊢
    exact h j e q
theorem prd_name {vs : List Nat} {i : Nat} {e : Expr} (h : PG X e (gName i)) (hi : i ∈ vs) (hl : i < X.N.length) : PG X e (tgR X.gc vs (rtN i)) := ⟨fun pins s σ H v u Q I r hw => h.run pins s σ H v u Q I r (by
  obtain ⟨F, ρ, d, R, e, hv, ρ', e1, k⟩ := hw
  cases e1
  exact k _ (wipe_set hi) (R.set hv (by rw [I.len]; exact hl)))⟩
theorem prds_nil {vs : List Nat} : PGs X [] (tgsR X.gc vs rtsNil) := pgs_imp pgs_nil fun v σ H Q ⟨F, ρ, d, R, e, hv, ρ', e1, k⟩ => by
  cases d with
  | nil => cases hv; cases e1; exact ⟨rfl, k _ rfl R⟩
  | cons _ _ => cases e1
theorem prds_cons {vs : List Nat} {e : Expr} {es : List Expr} {t : RtM} {u : List D → Rho → Option Rho} (h1 : PG X e (tgR X.gc vs t)) (h2 : PGs X es (tgsR X.gc vs u)) (hs : (assignEach (e :: es) X.env).map (·.2) = assign e X.env :: (assignEach es X.env).map (·.2) := by rfl) : PGs X (e :: es) (tgsR X.gc vs (rtsCons t u)) :=
  pgs_imp (pgs_cons h1 h2 hs) fun v σ H Q ⟨F, ρ, d, R, e, hv, ρ', e1, k⟩ => by
    cases hv with
    | nil => cases e1
    | @cons v vs' d ds a b =>
      have e1' : (t d ρ).bind (u ds) = some ρ' := e1
      cases q : t d ρ with
      | none => rw [q] at e1'; cases e1'
      | some ρ1 =>
        rw [q] at e1'
        exact ⟨_, _, rfl, F, ρ, d, R, e, a, ρ1, q, fun σ' w R' => ⟨F, ρ1, ds, R', e, b, ρ', e1', fun σ2 w2 R2 => k σ2 (w2.trans w) R2⟩⟩
theorem prd_tup {vs : List Nat} {es : List Expr} {k : Nat} {u : List D → Rho → Option Rho} {n : Nat} {pos : Pos} (hc : X.calm = true) (h : PGs X es (tgsR X.gc vs u)) (hn : (assignEach es X.env).length = n := by rfl) (hst : (assignEach es X.env).findIdx? (·.1) = none := by rfl) : PG X (.Tuple es k pos) (tgR X.gc vs (rtT n u)) :=
  pg_imp (pg_tup hc h hn hst) fun v σ H Q ⟨F, ρ, d, R, e, hv, ρ', e1, k⟩ => by
    cases hv with
    | @tup a xs ds h1 h2 =>
      have e1' : (if ds.length = n then u ds ρ else none) = some ρ' := e1
      by_cases q : ds.length = n
      · rw [if_pos q] at e1'
        exact ⟨a, xs, rfl, ex_t e h1, h2.len.trans q, F, ρ, ds, R, e, h2, ρ', e1', k⟩
      · rw [if_neg q] at e1'; cases e1'
    | _ => simp [rtT] at e1
def R.nox {α : Type} (r : R α) : R α := match r with
  | .ok a => .ok a
  | _ => .un
@[simp] theorem nox_ok {α : Type} (a : α) : (R.ok a).nox = .ok a := rfl
def tYesD : TM := fun _ s => .ok (true, s)
def lcF (t : RtM) (c : TM) (e : EM) : List D → Rho → List D → R (List D × List D)
  | [], _, s => .ok ([], s)
  | d :: r, ρ, s => match t d ρ with
    | none => .un
    | some ρ1 => (c ρ1 s).nox.bind fun b => if b.1 = true then (e ρ1 b.2).nox.bind fun y => (lcF t c e r ρ y.2).bind fun z => .ok (y.1 :: z.1, z.2) else lcF t c e r ρ b.2
def eLc (f : WM) (vs : List Nat) (t : RtM) (c : TM) (e : EM) : EM := fun ρ s => (f ρ s).bind fun z => if small z.1.length then (lcF t c e z.1 (wpR ρ vs) z.2).bind fun y => .ok (.list y.1, y.2) else .un
theorem Post.nox {α β : Type} {G : GC} {E' : XK} {r : R (α × List D)} {rel : Hp → Hp → β → α → Prop} {Q : β → Hp → Prop} (h : Post G p E F H r.nox rel Q) : Post G p E' F H r rel Q := by
  cases r with
  | un => exact h
  | ex e => exact h.elim
  | ok z => exact h
end
end DL
end

section
set_option Elab.async false
set_option linter.all false
set_option maxRecDepth 100000
set_option maxHeartbeats 4000000
/-! The data layer, part 9: list comprehensions, defs. -/
namespace DL
open PySem PySem.Spec PyProof.Rows L2
theorem Ext.put {G : GC} {p : Option PQ} {F H F' H' : Hp} {a : Addr} {o : HO} (x : Ext G p F H F' H') (h1 : H a = none) (h2 : F' a = none) (f : Fr1 H' a) : Ext G p F H F' (upd H' a o) :=
  ⟨x.ff, fun b u hb => by rw [upd_ne (ne_of_none hb h2)]; exact x.fh b u hb, x.own, fun b u n hb w => by rw [upd_ne (ne_of_none hb h1)]; exact x.st b u n hb w, fun b hb => by
    by_cases q : b = a
    · rw [q, upd_same]; simp
    · rw [upd_ne q]; exact x.dom b hb, fun t => (x.tb t).put f⟩
section
variable {X : Cx} {p : Option PQ} {E : XK} {F0 H0 F H : Hp} {σ : L2.St} {tg : Expr}
theorem tLc_of {G : GC} {f : WM} {vs : List Nat} {t : RtM} {c : TM} {e : EM} {σ : L2.St} {H : Hp} {Q : VK} (h : tD G p E (eLc f vs t c e) σ H Q) : tLc (iD G p E f) (tgR G vs t) (tDB G p E0 c) (tD G p E0 e) vs σ H Q := by
  obtain ⟨F, ρ, s, pre, post⟩ := h
  refine ⟨F, ρ, s, pre, Post.bind post fun xs s1 F1 J H1 e1 x1 r1 wk post1 => fun Da hD => ?_⟩
  obtain ⟨Gd, Y, wk, items⟩ := wk.ex
  cases hz : small xs.length with
  | false => simp only [hz] at post1; exact post1.elim
  | true =>
    simp only [hz, if_true] at post1
    have hzl := small_line hz
    have hFD : F1 Da = none := by
      cases z : F1 Da with
      | none => rfl
      | some o => rw [x1.fh Da o z] at hD; cases hD
    have nD : some (PQ.sp Da) ≠ p := r1.ne hD
    refine lc_it wk (fun i H => ∃ F' s' acc us, Ext G p F1 H1 F' H ∧ SRel G p F' H s' ∧ F' Da = none ∧ H Da = some (.lst us) ∧ DDs G F' us acc ∧ us.length ≤ i ∧
      Post G p E F1 H1 ((lcF t c e (xs.drop i) (wpR ρ vs) s').bind fun z => .ok ((.list (acc ++ z.1) : D), z.2)) (fun F' _ v d => DD G F' v d) Q) ?_ (fun i H _ ⟨F', s', acc, us, x, _⟩ => (items F' H x.ff x.fh).1) (fun i x H H' hi ⟨F', s', acc, us, x2, r2, g1, g2, g3, g4, q⟩ y => ?_) fun H ⟨F', s', acc, us, x2, r2, g1, g2, g3, g4, q⟩ => ?_
    · exact ⟨F1, s1, [], [], Ext.mine x1.fh hD, r1.ext (Ext.mine x1.fh hD), hFD, upd_same, .nil, Nat.le_refl _, post1⟩
    · obtain ⟨F3, d, x3, hd, hx⟩ := (items F' H x2.ff x2.fh).2 i x H' hi y
      obtain ⟨hlt, hd'⟩ := List.getElem?_eq_some_iff.mp hd
      rw [List.drop_eq_getElem_cons hlt, hd'] at q
      unfold lcF at q
      cases ht : t d (wpR ρ vs) with
      | none => rw [ht] at q; exact q.elim
      | some ρ1 =>
        rw [ht] at q
        have e13 : Ex F1 F3 := x2.ff.trans x3.ff
        refine ⟨F3, wpR ρ vs, d, wpR_rel ((pre.rd.ex x1.ff).ex e13), x3.fh, hx, ρ1, ht, fun σ2 hw R2 => ⟨by rw [hw, wipe_wipe], F3, ρ1, s', ⟨x3.fh, r2.ext x3, R2⟩, ?_⟩⟩
        have g2' := x3.ex Da _ g2 nT_lst
        have g1' : F3 Da = none := (x3.own Da (by rw [g2]; simp)).trans g1
        have x23 : Ext G p F1 H1 F3 H' := x2.trans x3.weak
        have us_lt : us.length < sizeLine := Nat.lt_of_le_of_lt g4 (Nat.lt_trans hi hzl)
        have q' : Post G p E F1 H1 (((c ρ1 s').nox.bind fun b => if b.1 = true then (e ρ1 b.2).nox.bind fun y => (lcF t c e (xs.drop (i + 1)) (wpR ρ vs) y.2).bind fun z => .ok (y.1 :: z.1, z.2) else lcF t c e (xs.drop (i + 1)) (wpR ρ vs) b.2).bind fun z => .ok ((.list (acc ++ z.1) : D), z.2)) (fun F' _ v d => DD G F' v d) Q := q
        cases hc : c ρ1 s' with
        | un => rw [hc] at q'; exact q'.elim
        | ex ee => rw [hc] at q'; exact q'.elim
        | ok z =>
          rw [hc] at q'
          intro F4 b H4 x4 r4 hb
          have hb' : b = z.1 := hb
          have g2'' : H4 Da = some (.lst us) := x4.st Da _ nD g2' nT_lst
          have g1'' : F4 Da = none := (x4.own Da (by rw [g2']; simp)).trans g1'
          have x24 : Ext G p F1 H1 F4 H4 := x23.trans x4
          obtain ⟨zb, zs⟩ := z
          simp only at hb'
          subst hb'
          cases b with
          | false =>
            refine iteF ⟨F4, zs, acc, us, x24, r4, g1'', g2'', (g3.ex x3.ff).ex x4.ff, Nat.le_succ_of_le g4, ?_⟩
            simpa using q'
          | true =>
            have q'' : Post G p E F1 H1 (((e ρ1 zs).nox.bind fun y => (lcF t c e (xs.drop (i + 1)) (wpR ρ vs) y.2).bind fun z => .ok (y.1 :: z.1, z.2)).bind fun z => .ok ((.list (acc ++ z.1) : D), z.2)) (fun F' _ v d => DD G F' v d) Q := by simpa using q'
            refine iteT ⟨F4, ρ1, zs, ⟨x4.fh, r4, R2.ex x4.ff⟩, ?_⟩
            cases he : e ρ1 zs with
            | un => rw [he] at q''; exact q''.elim
            | ex ee => rw [he] at q''; exact q''.elim
            | ok w =>
              rw [he] at q''
              intro F5 v H5 x5 r5 hv
              have g2s : H5 Da = some (.lst us) := x5.st Da _ nD g2'' nT_lst
              have g1s : F5 Da = none := (x5.own Da (by rw [g2'']; simp)).trans g1''
              refine ⟨us, g2s, us_lt, F5, w.2, acc ++ [w.1], us ++ [v], (x24.trans x5).put hD g1s (.lst g2s), r5.put nD (.lst g2s), g1s, upd_same, (((g3.ex x3.ff).ex x4.ff).ex x5.ff).app (DDs.one hv), by rw [List.length_append]; exact Nat.succ_le_succ g4, ?_⟩
              have q3 : Post G p E F1 H1 (((lcF t c e (xs.drop (i + 1)) (wpR ρ vs) w.2).bind fun z => .ok (w.1 :: z.1, z.2)).bind fun z => .ok ((.list (acc ++ z.1) : D), z.2)) (fun F' _ v d => DD G F' v d) Q := q''
              rw [bind_assoc] at q3
              simpa using q3
    · rw [List.drop_length] at q
      have q' : Post G p E F1 H1 (.ok ((.list (acc ++ []) : D), s')) (fun F' _ v d => DD G F' v d) Q := q
      rw [List.append_nil] at q'
      refine q' (upd F' Da (.lst us)) (.ref Da) H ⟨x2.ff.trans (Ex.new g1), fun b o hb => ?_, fun b hb => ?_, x2.st, x2.dom, x2.tb⟩ ?_ (.lst (SqL.of upd_same) (g3.ex (Ex.new g1)))
      · by_cases z : b = Da
        · rw [z, upd_same] at hb; cases hb; rw [z]; exact g2
        · rw [upd_ne z] at hb; exact x2.fh b o hb
      · rw [upd_ne (fun z => hb (by rw [z]; exact hD))]; exact x2.own b hb
      · refine ⟨⟨r2.1.1, fun z hz => (upd_ne (fun y => by obtain ⟨ps, h⟩ := r2.1.1.some hz; rw [y, g2] at h; cases h)).trans (r2.1.2 z hz)⟩, ?_⟩
        match p, r2.2, nD with
        | none, r2, _ => exact r2
        | some (.sp a), r2, nD =>
          obtain ⟨h1, h2⟩ := r2
          exact ⟨by rw [upd_ne (fun z => nD (by rw [z]))]; exact h1, h2⟩
        | some (.fn F3), r2, _ => exact ⟨r2.1, r2.2.trans (Ex.new g1)⟩
theorem ptsd_nil : PTs X [] (tDB X.gc p E tYesD) := ⟨fun pins s σ H Q I ⟨F, ρ, s', pre, post⟩ => pts_nil.run pins s σ H Q I (Post.okI (show Post X.gc p E F H (.ok (true, s')) relB Q from post) pre.ex pre.sr rfl)⟩
theorem ptsd_one {c : Expr} {g : TM} (h : PTD X p E c g) : PTs X [c] (tDB X.gc p E g) := pts_one h
theorem pd_lc {elt iter : Expr} {ifs : List Expr} {scope : Scope} {own : List (Str × Nat)} {pos : Pos} {f : WM} {t : RtM} {c : TM} {e : EM} (hc : X.calm = true) (hN : X.N.Nodup) (hi : PID X p E tg iter f) (ok : BlkOk X.N X.env.scope scope own)
    (hg : ∀ (s : Shared) (H : Hp) (C : Addr) (cl : List (Str × Addr)) (fp : List Addr), PG (X.blk s H scope (compEnvC scope cl C X.env) fp) tg (tgR X.gc (own.map (·.2)) t)) (ht : ∀ (s : Shared) (H : Hp) (C : Addr) (cl : List (Str × Addr)) (fp : List Addr), PTs (X.blk s H scope (compEnvC scope cl C X.env) fp) ifs (tDB X.gc p E0 c))
    (he : ∀ (s : Shared) (H : Hp) (C : Addr) (cl : List (Str × Addr)) (fp : List Addr), PE (X.blk s H scope (compEnvC scope cl C X.env) fp) elt (tD X.gc p E0 e)) (hs : ∀ x, foldedSetIterable iter X.env x = pure x := by intro _; rfl) : PED X p E (.ListComp elt [⟨tg, iter, ifs, 0⟩] scope pos) (eLc f (own.map (·.2)) t c e) :=
  pe_imp (pe_lc hc hN hi ok hg ht he hs) fun _ _ _ h => tLc_of h
end
/-! ### a def -/
def runF (g : SM) (n : Nat) (ds : List D) : R D := match g (ds.map L.d ++ List.replicate (n - ds.length) L.un) [] with
  | .nx _ _ => .ok .none
  | .rt d _ => .ok d
  | .ex e => .ex e
  | _ => .un
section
variable {G : GC}
theorem startL {F H : Hp} {vs : List V} {ds : List D} (hd : DDs G F vs ds) (N : List Str) : RelL G F H H (L2.start N vs) (ds.map L.d ++ List.replicate (N.length - ds.length) L.un) := by
  have e := hd.len
  have o : ∀ i : Nat, ∀ v a, oad v ((ds.map L.d ++ List.replicate (N.length - ds.length) L.un)[i]?) ≠ some a := fun i v a h => by
    obtain ⟨c, h1, _⟩ := oad_own h
    have hm := List.mem_of_getElem? h1
    rcases List.mem_append.mp hm with q | q
    · obtain ⟨d, _, z⟩ := List.mem_map.mp q; cases z
    · have z := (List.mem_replicate.mp q).2; cases z
  refine ⟨by simp [L2.start, e], fun i l hl => ?_, fun i j a h => absurd h (o i _ a)⟩
  unfold L2.start
  by_cases hi : i < ds.length
  · rw [List.getElem?_append_left (by simpa using hi), List.getElem?_map] at hl
    rw [List.getElem?_append_left (by simpa [e] using hi), List.getElem?_map]
    cases q : ds[i]? with
    | none => rw [q] at hl; cases hl
    | some d =>
      rw [q] at hl
      cases hl
      obtain ⟨v, h1, h2⟩ := hd.get q
      rw [h1]
      exact ⟨v, rfl, h2⟩
  · rw [List.getElem?_append_right (by simpa using hi)] at hl
    have hm := List.mem_of_getElem? hl
    have z := (List.mem_replicate.mp hm).2
    subst z
    trivial
end
end DL
end

section
set_option Elab.async false
set_option linter.all false
set_option maxRecDepth 100000
set_option maxHeartbeats 4000000
/-! The data layer, part 10: defs by name, built-ins in short. -/
namespace DL
open PySem PySem.Spec PyProof.Rows L2
/-- a def of the module that is a function of data -/
structure FnG (G : GC) (k : Nat) (x : Str) (n : Nat) (m : List D → R D) : Prop where
  ex : ∃ fd ps, FnOk G.P G.w G.K G.mg G.base (L2N.CX G.P G.w) k (He.ga G.K x) fd ps (spD G n m) ∧ Binds G.K fd ps []
  gl : G.mg x = some (.ref (He.ga G.K x))
  kp : PySem.W.keepIn G.K (.ref (He.ga G.K x)) = true
/-- a def as the head tells it -/
structure DefF (G : GC) (x : Str) (st : Stmt) : Prop where
  ex : ∃ fd, FunD G.K x x (defArgs st) (defBody st) (defScope st) [] [] (He.ga G.K x) fd
  gl : G.mg x = some (.ref (He.ga G.K x))
/-- an error class of the module without an __init__ of its own -/
structure ExcF (G : GC) (x : Str) : Prop where
  gl : G.mg x = some (.ref (He.ga G.K x))
  ex : PySem.W.excIn G.K (He.ga G.K x) He.veBase "ValueError.__new__" = true
  kp : PySem.W.keepIn G.K (.ref (He.ga G.K x)) = true
  sb : PySem.W.subIn G.K (.ref (He.ga G.K x)) (.type "BaseException") = some true
  ty : PySem.W.typeIn G.K (.ref (He.ga G.K x)) = some (.type "type")
section
variable {G : GC}
theorem funD_okC {x : Str} {st : Stmt} {N ps : List Str} {k : Nat} {sp : Sp} {fd : FuncData} (FD : FunD G.K x x (defArgs st) (defBody st) (defScope st) [] [] (He.ga G.K x) fd) (S : FnScope N ps (defScope st)) (len : ∀ vs H Q E, sp vs H Q E → vs.length = ps.length)
    (hbody : ∀ (cdv : Value) (A : Around) (outer : List PySem.Env) (s : Shared) (H : Hp) (vs : List V) (Q : VK) (E : XK), cdv = .ref (He.codeOf G.K (x, none)) → Room k (A.deeper (envOfC x (defScope st) s.heap.objs.size (He.ga G.K x) cdv)) → sp vs H Q E →
      ∃ t, PSs (cxOf (L2N.CX G.P G.w) G.P G.w G.K G.mg G.base N x (defScope st) (He.ga G.K x) cdv A outer s H E) (defBody st) t ∧ t { nx := fun _ H' => Q .non H', rt := Q } (L2.start N vs) H) : FnOk G.P G.w G.K G.mg G.base (L2N.CX G.P G.w) (k + 1) (He.ga G.K x) fd ps sp := by
  obtain ⟨oc, od, dV, kV, doc, pm, an, cdv, ct, osl, rfl, lk, hcd, _, _⟩ := FD.ex
  obtain ⟨c, hcr⟩ := He.codeIn_ref hcd
  have ecd : cdv = .ref (He.codeOf G.K (x, none)) := by rw [He.codeOf_eq (p := (x, none)) lk hcr]; exact hcr
  exact fn_of lk hcd S len fun A outer s H vs Q E hr hsp => hbody cdv A outer s H vs Q E ecd hr hsp
theorem def_okG {x : Str} {st : Stmt} {N ps : List Str} {k n : Nat} {g : SM} (F : DefF G x st) (S : FnScope N ps (defScope st)) (hn : ps.length = n)
    (hb : ∀ (kV doc pm : Value) (an : Option Addr) (cdv ct : Value) (us : List Value), us.length = ps.length → bindArgs (PySem.W.fnOf x x (defArgs st) (defBody st) (defScope st) .none kV doc pm an cdv ct) ⟨us, []⟩ = pure (ps.zip us))
    (der : ∀ (cdv : Value) (A : Around) (outer : List PySem.Env) (s : Shared) (H F0 : Hp) (E : XK), cdv = .ref (He.codeOf G.K (x, none)) → Room k (A.deeper (envOfC x (defScope st) s.heap.objs.size (He.ga G.K x) cdv)) →
      Passes (L2N.CX G.P G.w) (cxOf (L2N.CX G.P G.w) G.P G.w G.K G.mg G.base N x (defScope st) (He.ga G.K x) cdv A outer s H E) E →
      PassesOwn (model G.P G.w) (A.deeper (envOfC x (defScope st) s.heap.objs.size (He.ga G.K x) cdv)) (envOfC x (defScope st) s.heap.objs.size (He.ga G.K x) cdv) (cxOf (L2N.CX G.P G.w) G.P G.w G.K G.mg G.base N x (defScope st) (He.ga G.K x) cdv A outer s H E).xe →
      PSsD (cxOf (L2N.CX G.P G.w) G.P G.w G.K G.mg G.base N x (defScope st) (He.ga G.K x) cdv A outer s H E) none E F0 H (defBody st) g) :
    FnG G (k + 1) x n (runF g N.length) := by
  obtain ⟨fd, FD⟩ := F.ex
  refine ⟨⟨fd, ps, funD_okC FD S (fun vs H Q E h => ?_) (fun cdv A outer s H vs Q E ecd hr h => ?_), FD.bindsN hb⟩, F.gl, FD.kp⟩
  · obtain ⟨F0, ds, h1, ht, h2, h3, h4⟩ := h
    rw [h2, hn]
  · obtain ⟨F0, ds, h1, ht, h2, h3, h4⟩ := h
    refine ⟨_, der cdv A outer s H F0 E ecd hr (L2N.passes_call (L2N.takes_of (E := E) rfl rfl rfl rfl) fun _ _ _ _ h => h) (passes_of rfl), F0, ds.map L.d ++ List.replicate (N.length - ds.length) L.un, [], ⟨Ext.refl h1, ⟨ht, rfl⟩, startL h3 N⟩, ?_⟩
    unfold runF at h4
    show PostS _ none E F0 H F0 (g (ds.map L.d ++ List.replicate (N.length - ds.length) L.un) []) _
    cases hg : g (ds.map L.d ++ List.replicate (N.length - ds.length) L.un) [] with
    | nx ρ s' => rw [hg] at h4; exact fun F σ H' _ st => h4 F .non H' st.ext .non
    | rt d s' => rw [hg] at h4; exact fun F v H' x _ hv => h4 F v H' x hv
    | bk ρ s' => rw [hg] at h4; exact h4.elim
    | ct ρ s' => rw [hg] at h4; exact h4.elim
    | ex e => rw [hg] at h4; exact fun F H' _ x => h4 F H' x
    | un => rw [hg] at h4; exact h4.elim
end
section
variable {X : Cx} {E : XK} {p : Option PQ} {e a b : Expr} {es : List Expr} {f fa fb : EM} {h : AM} {pos q : Pos}
theorem noP {H0 : Hp} : ∀ a : Addr, (none : Option PQ) = some (.sp a) → H0 a ≠ none := fun _ z => nomatch z
theorem pd_callG {x : Str} {j k n : Nat} {m : List D → R D} (Fn : FnG X.gc k x n m) (hr : Room j X.A) (hk : k ≤ j) (hx : Passes (L2N.CX X.prog X.w) X E) (h1 : PAD X p E (e :: es) h) (hl : ∀ ρ s ds s', h ρ s = .ok (ds, s') → ds.length = n)
    (hg : Gl X x := by rfl) (hdb : (x == ("__debug__" : Str)) = false := by decide) (he : starEach (e :: es) X.env = (false, eval e X.env) :: starEach es X.env := by rfl) (hpl : (backTo pos (starEach es X.env)).any (·.1) = false := by rfl) : PED X p E (.Call (.Name x q) (e :: es) [] pos) (eCall m h) := by
  obtain ⟨fd, ps, FO, hb⟩ := Fn.ex
  exact pd_call FO (hr.mono hk) hg Fn.gl Fn.kp hb hx h1 hl hdb he hpl
theorem pd_gint {x : Str} {i : Int} (hm : ∃ t, X.mg x = some (.int i t)) (hg : Gl X x := by rfl) (hd : (x == ("__debug__" : Str)) = false := by decide) : PED X p E (.Name x pos) (eC (.int i)) := by
  obtain ⟨t, hm⟩ := hm
  exact pd_c (v := .int i) (pe_glob hg hm ⟨t, rfl⟩ hd) fun _ => .int i
/-- a def's name as a value -/
theorem pd_gref {x : Str} (hm : X.mg x = some (.ref (He.ga X.K x))) (hg : Gl X x := by rfl) (hd : (x == ("__debug__" : Str)) = false := by decide) : PED X p E (.Name x pos) (eC (opq (He.ga X.K x))) :=
  pd_c (v := .ref (He.ga X.K x)) (pe_glob hg hm rfl hd) fun _ => .opq _
theorem pd_len (hm : X.mg "len" = none) (h1 : PAD X p E (e :: es) h) (hg : Gl X "len" := by rfl) (he : starEach (e :: es) X.env = (false, eval e X.env) :: starEach es X.env := by rfl) (hpl : (backTo pos (starEach es X.env)).any (·.1) = false := by rfl) : PED X p E (.Call (.Name "len" q) (e :: es) [] pos) (eCB lenD h) :=
  pd_callB cr_lenU cd_len hg hm PySem.boot_len h1 (by decide) (by decide) he hpl
theorem pd_all (hm : X.mg "all" = none) (hc : X.calm = true) (h1 : PAD X p E (e :: es) h) (hg : Gl X "all" := by rfl) (he : starEach (e :: es) X.env = (false, eval e X.env) :: starEach es X.env := by rfl) (hpl : (backTo pos (starEach es X.env)).any (·.1) = false := by rfl) : PED X p E (.Call (.Name "all" q) (e :: es) [] pos) (eCB allD h) :=
  pd_callB (cr_all hc) cd_all hg hm (by decide +kernel) h1 (by decide) (by decide) he hpl
theorem pd_any (hm : X.mg "any" = none) (hc : X.calm = true) (h1 : PAD X p E (e :: es) h) (hg : Gl X "any" := by rfl) (he : starEach (e :: es) X.env = (false, eval e X.env) :: starEach es X.env := by rfl) (hpl : (backTo pos (starEach es X.env)).any (·.1) = false := by rfl) : PED X p E (.Call (.Name "any" q) (e :: es) [] pos) (eCB anyD h) :=
  pd_callB (cr_any hc) cd_any hg hm (by decide +kernel) h1 (by decide) (by decide) he hpl
theorem pd_max (hm : X.mg "max" = none) (hc : X.calm = true) (h1 : PAD X p E (e :: es) h) (hg : Gl X "max" := by rfl) (he : starEach (e :: es) X.env = (false, eval e X.env) :: starEach es X.env := by rfl) (hpl : (backTo pos (starEach es X.env)).any (·.1) = false := by rfl) : PED X p E (.Call (.Name "max" q) (e :: es) [] pos) (eCB maxD h) :=
  pd_callB (cr_maxU hc) cd_max hg hm (by decide +kernel) h1 (by decide) (by decide) he hpl
theorem pd_min (hm : X.mg "min" = none) (hc : X.calm = true) (h1 : PAD X p E (e :: es) h) (hg : Gl X "min" := by rfl) (he : starEach (e :: es) X.env = (false, eval e X.env) :: starEach es X.env := by rfl) (hpl : (backTo pos (starEach es X.env)).any (·.1) = false := by rfl) : PED X p E (.Call (.Name "min" q) (e :: es) [] pos) (eCB minD h) :=
  pd_callB (cr_minU hc) cd_min hg hm (by decide +kernel) h1 (by decide) (by decide) he hpl
theorem pd_abs (hm : X.mg "abs" = none) (h1 : PAD X p E (e :: es) h) (hg : Gl X "abs" := by rfl) (he : starEach (e :: es) X.env = (false, eval e X.env) :: starEach es X.env := by rfl) (hpl : (backTo pos (starEach es X.env)).any (·.1) = false := by rfl) : PED X p E (.Call (.Name "abs" q) (e :: es) [] pos) (eCB absD h) :=
  pd_callB call_abs cd_abs hg hm (by decide +kernel) h1 (by decide) (by decide) he hpl
theorem pd_intc (hm : X.mg "int" = none) (h1 : PAD X p E (e :: es) h) (hg : Gl X "int" := by rfl) (he : starEach (e :: es) X.env = (false, eval e X.env) :: starEach es X.env := by rfl) (hpl : (backTo pos (starEach es X.env)).any (·.1) = false := by rfl) : PED X p E (.Call (.Name "int" q) (e :: es) [] pos) (eCB intD h) :=
  pd_callTy call_int1 cd_int hg hm (by decide +kernel) h1 (by decide) (by decide) he hpl
theorem pd_tuplec (hm : X.mg "tuple" = none) (h1 : PAD X p E (e :: es) h) (hg : Gl X "tuple" := by rfl) (he : starEach (e :: es) X.env = (false, eval e X.env) :: starEach es X.env := by rfl) (hpl : (backTo pos (starEach es X.env)).any (·.1) = false := by rfl) : PED X p E (.Call (.Name "tuple" q) (e :: es) [] pos) (eCB tupleD h) :=
  pd_callTy call_tuple_of cd_tuple hg hm (by decide +kernel) h1 (by decide) (by decide) he hpl
theorem pd_listc (hm : X.mg "list" = none) (h1 : PAD X p E (e :: es) h) (hg : Gl X "list" := by rfl) (he : starEach (e :: es) X.env = (false, eval e X.env) :: starEach es X.env := by rfl) (hpl : (backTo pos (starEach es X.env)).any (·.1) = false := by rfl) : PED X p E (.Call (.Name "list" q) (e :: es) [] pos) (eCB listD h) :=
  pd_callTy call_list_of cd_list hg hm (by decide +kernel) h1 (by decide) (by decide) he hpl
/-- the room of a def, as the rules of == and in want it -/
theorem room66 {k : Nat} {A : Around} (r : Room k A) : A.units + 66 < cLine := by have := r.un; omega
theorem room64 {k : Nat} {A : Around} (r : Room k A) : A.units + 64 < cLine := by have := r.un; omega
/-- raise C('..') in a def -/
theorem psd_raiseG {F0 H0 : Hp} {x m : Str} {j : Nat} {p1 p2 pos pos' : Pos} {E₁ : Value → Shared → Prop} (C : ExcF X.gc x) (hc : X.calm = true) (hs : X.stack = X.env :: X.outer) (hf : X.env.frame = some X.env.locals) (hex : X.ex = [])
    (hxe : X.xe = fun e s' => wpAny (model X.prog X.w) X.A (leaving X.env e) (fun _ s'' => L2N.CX X.prog X.w X.outer X.H_0 X.s_0 E e s'') E₁ s') (hg : Gl X x := by rfl) (hdb : (x == ("__debug__" : Str)) = false := by decide) :
    PSD X p E F0 H0 (.Raise (some (.Call (.Name x p1) [.Constant (.str m) j p2] [] pos')) none pos) (gRaise x) :=
  psd_raise PySem.F.excBase_ValueError C.ex C.gl C.kp (raises_own C.sb C.ty) hg hc (L2N.takes_of hs hf hex hxe) (fun _ _ _ _ h => h) hdb
/-- x.append(e) as the text has it -/
theorem psd_appG {F0 H0 : Hp} {x : Expr} {i : Nat} {ms : List Nat} {pos' apos : Pos} (hp : ∀ a, p = some (.sp a) → H0 a ≠ none) (hx : PE X x (tVar i)) (h : PED X p E e f)
    (h1 : PE X (.Call (.Attribute x "append" apos) [e] [] pos') (tBM X.K "list" rAppend (tVar i) (tCons (tD X.gc p E f) tNil))) (hs : swapsWith (.Call (.Attribute x "append" apos) [e] [] pos') none pos.line X.env = pure false := by rfl) :
    PSD X p E F0 H0 (.Expr (.Call (.Attribute x "append" apos) [e] [] pos') pos) (gApp ms i f) :=
  psd_app hp hx h fun _ _ => ps_expr h1 hs
end
end DL
end

section
set_option Elab.async false
set_option linter.all false
set_option maxRecDepth 100000
set_option maxHeartbeats 4000000
/-! The data layer, part 11: zip, enumerate, several names at once, a name that gets a comprehension. -/
namespace DL
open PySem PySem.Spec PyProof.Rows L2
section
variable {G : GC} {F' : Hp}
theorem wk_pair {K : PySem.W.Frag} {J : It} {Gd : Hp → Prop} {xs ys : Nat → Option V} {n : Nat} {as bs : List D} {ds : List D} (w : Walk J n Gd (YPair xs ys)) (hG : ∀ F2 H2, Ex F' F2 → Ex F2 H2 → Gd H2) (hn : ds.length = n)
    (hi : ∀ i x y, i < n → xs i = some x → ys i = some y → ∃ a b, ds[i]? = some (.tuple [a, b]) ∧ DD G F' x a ∧ DD G F' y b) : Wk G F' J ds :=
  ⟨_, _, by rw [hn]; exact w, fun F2 H2 e1 e2 => ⟨hG F2 H2 e1 e2, fun i v H3 hlt y => by
    obtain ⟨T, x, z, rfl, hT, rfl, h1, h2⟩ := y
    obtain ⟨a, b, h3, h4, h5⟩ := hi i x z (by rw [← hn]; exact hlt) h1 h2
    have e : ExtN G F2 H2 (upd F2 T (.tup [x, z])) (upd H2 T (.tup [x, z])) := Ext.new e2 hT
    exact ⟨_, _, e, h3, .tup (SqT.of upd_same) (.cons ((h4.ex e1).ex e.ff) (.cons ((h5.ex e1).ex e.ff) .nil))⟩⟩⟩
def zipD : List D → List D → List D
  | a :: as, b :: bs => .tuple [a, b] :: zipD as bs
  | _, _ => []
theorem zipD_len : ∀ as bs : List D, (zipD as bs).length = min as.length bs.length
  | [], _ => by simp [zipD]
  | _ :: _, [] => by simp [zipD]
  | _ :: as, _ :: bs => by simp only [zipD, List.length_cons, zipD_len as bs]; omega
theorem zipD_get : ∀ (as bs : List D) (i : Nat) (a b : D), as[i]? = some a → bs[i]? = some b → (zipD as bs)[i]? = some (.tuple [a, b])
  | [], _, _, _, _, h, _ => by simp at h
  | _ :: _, [], _, _, _, _, h => by simp at h
  | x :: as, y :: bs, 0, a, b, h1, h2 => by
    have e1 : x = a := by simpa using h1
    have e2 : y = b := by simpa using h2
    subst e1 e2
    rfl
  | x :: as, y :: bs, i + 1, a, b, h1, h2 => by
    simp only [List.getElem?_cons_succ] at h1 h2
    simp only [zipD, List.getElem?_cons_succ]
    exact zipD_get as bs i a b h1 h2
def enumD (xs : List D) : List D := xs.mapIdx fun i d => .tuple [.int (i : Nat), d]
def zip2 : List D → Option (List D)
  | [.list xs, .list ys] => some (zipD xs ys)
  | [.tuple xs, .tuple ys] => some (zipD xs ys)
  | _ => none
def enum1 : List D → Option (List D)
  | [.list xs] => some (enumD xs)
  | _ => none
def wZip (f : AM) : WM := wRng zip2 f
def wEnumerate (f : AM) : WM := wRng enum1 f
end
section
variable {X : Cx} {p : Option PQ} {E : XK} {F0 H0 F H : Hp} {σ : L2.St}
theorem zip2_some {ds z : List D} (h : zip2 ds = some z) : ∃ xs ys, (ds = [.list xs, .list ys] ∨ ds = [.tuple xs, .tuple ys]) ∧ zipD xs ys = z := by
  unfold zip2 at h
  split at h
  · cases h; exact ⟨_, _, .inl rfl, rfl⟩
  · cases h; exact ⟨_, _, .inr rfl, rfl⟩
  · cases h
theorem enum1_some {ds z : List D} (h : enum1 ds = some z) : ∃ xs, ds = [.list xs] ∧ enumD xs = z := by
  unfold enum1 at h
  split at h
  · cases h; exact ⟨_, rfl, rfl⟩
  · cases h
theorem wk_zip {G : GC} {F1 : Hp} {J : It} {Gd : Hp → Prop} {us vs : List V} {as bs : List D} (w : Walk J (min us.length vs.length) Gd (YPair (fun i => us[i]?) (fun i => vs[i]?))) (hG : ∀ F2 H2, Ex F1 F2 → Ex F2 H2 → Gd H2) (ha : DDs G F1 us as) (hb : DDs G F1 vs bs) : Wk G F1 J (zipD as bs) :=
  wk_pair (K := G.K) (as := as) (bs := bs) w hG (by rw [zipD_len, ha.len, hb.len]) fun i x y hlt h1 h2 => by
    obtain ⟨a, e1, d1⟩ := ha.get' h1
    obtain ⟨b, e2, d2⟩ := hb.get' h2
    exact ⟨a, b, zipD_get as bs i a b e1 e2, d1, d2⟩
theorem walk_zipT {K : PySem.W.Frag} {a b : Addr} {xs ys : List V} : Walk (RZ.ItzT K a b) (min xs.length ys.length) (fun H => SqT K H a xs ∧ SqT K H b ys) (YPair (fun i => xs[i]?) (fun i => ys[i]?)) := by
  refine ⟨fun i _ hi q => ?_, fun _ q => ⟨xs, ys, q.1, q.2, by omega⟩, fun i H v H' _ q y => ?_⟩
  · have h1 : i < xs.length := by omega
    have h2 : i < ys.length := by omega
    exact ⟨xs, ys, xs[i], ys[i], q.1, q.2, by simp [h1], by simp [h2]⟩
  · obtain ⟨T, x, z, h1, h2, h3, h4, h5⟩ := y
    exact ⟨T, x, z, h1, h2, h3, h4 xs q.1, h5 ys q.2⟩
theorem pid_zip {e e2 : Expr} {f : AM} {q pos tpos : Pos} {elts : List Expr} {kk : Nat} (hg : Gl X "zip") (hm : X.mg "zip" = none) (ha : PAD X p E [e, e2] f)
    (hs : starEach [e, e2] X.env = (false, eval e X.env) :: starEach [e2] X.env := by rfl) (hpl : (backTo pos (starEach [e2] X.env)).any (·.1) = false := by rfl) : PID X p E (.Tuple elts kk tpos) (.Call (.Name "zip" q) [e, e2] [] pos) (wZip f) :=
  pi_imp (RZ.pi_zipA hg hm ha hs hpl) fun σ H Q ⟨F, ρ, s, pre, post⟩ => ⟨F, ρ, s, pre, Post.bind post fun d1 s1 F1 x H1 e1 x1 r1 q1 post1 => by
    obtain ⟨z, ez, post2⟩ := ofO_post post1
    obtain ⟨xs, ys, hd, rfl⟩ := zip2_some ez
    have hd' : d1 = [.list xs, .list ys] ∨ d1 = [.tuple xs, .tuple ys] := hd
    rcases hd' with e1' | e1'
    · subst e1'
      obtain ⟨v, w, rfl, hv, hw⟩ := DDs.two_inv q1
      cases hv with
      | lst a1 a2 =>
        cases hw with
        | lst b1 b2 => exact ⟨_, _, _, _, rfl, .inl ⟨ex_l x1.fh a1, ex_l x1.fh b1, Post.okI post2 x1.fh r1 (wk_zip (walk_zip rfl) (fun F2 H2 g1 g2 => ⟨ex_l g2 (ex_l g1 a1), ex_l g2 (ex_l g1 b1)⟩) a2 b2)⟩⟩
    · subst e1'
      obtain ⟨v, w, rfl, hv, hw⟩ := DDs.two_inv q1
      cases hv with
      | tup a1 a2 =>
        cases hw with
        | tup b1 b2 => exact ⟨_, _, _, _, rfl, .inr ⟨ex_t x1.fh a1, ex_t x1.fh b1, Post.okI post2 x1.fh r1 (wk_zip walk_zipT (fun F2 H2 g1 g2 => ⟨ex_t g2 (ex_t g1 a1), ex_t g2 (ex_t g1 b1)⟩) a2 b2)⟩⟩⟩
theorem pid_enumerate {e : Expr} {f : AM} {q pos tpos : Pos} {elts : List Expr} {kk : Nat} (hg : Gl X "enumerate") (hm : X.mg "enumerate" = none) (ha : PAD X p E [e] f) (hs : starEach [e] X.env = [(false, eval e X.env)] := by rfl) :
    PID X p E (.Tuple elts kk tpos) (.Call (.Name "enumerate" q) [e] [] pos) (wEnumerate f) :=
  pi_imp (pi_enum hg hm ha hs) fun σ H Q ⟨F, ρ, s, pre, post⟩ => ⟨F, ρ, s, pre, Post.bind post fun d1 s1 F1 x H1 e1 x1 r1 q1 post1 => by
    obtain ⟨z, ez, post2⟩ := ofO_post post1
    obtain ⟨xs, hd, rfl⟩ := enum1_some ez
    have hd' : d1 = [.list xs] := hd
    subst hd'
    obtain ⟨v, rfl, hv⟩ := DDs.one_inv q1
    cases hv with
    | @lst a us _ a1 a2 =>
      refine ⟨_, _, rfl, ex_l x1.fh a1, Post.okI post2 x1.fh r1 (wk_pair (K := X.K) (as := []) (bs := []) walk_enum (fun F2 H2 g1 g2 => ex_l g2 (ex_l g1 a1)) (by unfold enumD; rw [List.length_mapIdx]; exact a2.len.symm) fun i x y hlt h1 h2 => ?_)⟩
      obtain ⟨b, e2, d2⟩ := a2.get' h2
      cases h1
      refine ⟨.int (i : Nat), b, ?_, .int _, d2⟩
      unfold enumD
      rw [List.getElem?_mapIdx, e2]
      rfl⟩
/-- a tuple of the module -/
structure TupF (G : GC) (x : Str) (d : D) : Prop where
  gl : G.mg x = some (.ref (He.ga G.K x))
  dd : ∀ H, DD G H (.ref (He.ga G.K x)) d
theorem pd_gtup {x : Str} {d : D} {pos : Pos} (T : TupF X.gc x d) (hg : Gl X x := by rfl) (hd : (x == ("__debug__" : Str)) = false := by decide) : PED X p E (.Name x pos) (eC d) :=
  pd_c (v := .ref (He.ga X.K x)) (pe_glob hg T.gl rfl hd) T.dd
/-! ### several names at once -/
inductive Itm where
  | d (x : D)
  | own (c : Cell)
abbrev IM := Rho → List D → R (List Itm × List D)
/-- the values of items: own ones are new and apart -/
inductive ItsOk (G : GC) (F H : Hp) : Hp → List V → List Itm → Prop
  | nil {Hs : Hp} : ItsOk G F H Hs [] []
  | data {Hs : Hp} {v : V} {vs : List V} {x : D} {is : List Itm} : DD G F v x → ItsOk G F H Hs vs is → ItsOk G F H Hs (v :: vs) (.d x :: is)
  | own {Hs : Hp} {a : Addr} {vs : List V} {c : Cell} {is : List Itm} : F a = none → Hs a = none → CellAt G F H a c → ItsOk G F H (upd Hs a (.lst [])) vs is → ItsOk G F H Hs (.ref a :: vs) (.own c :: is)
def tAI (G : GC) (p : Option PQ) (E : XK) (f : IM) : TA := fun σ H Q => ∃ F ρ s, Pre G p F H σ ρ s ∧ Post G p E F H (f ρ s) (fun F' H' vs is => ItsOk G F' H' H vs is) Q
def iNil : IM := fun _ s => .ok ([], s)
def iD' (f : EM) (r : IM) : IM := fun ρ s => (f ρ s).bind fun z => (r ρ z.2).bind fun y => .ok (.d z.1 :: y.1, y.2)
def iL0 (r : IM) : IM := fun ρ s => (r ρ s).bind fun y => .ok (.own (.lst []) :: y.1, y.2)
def iK0 (r : IM) : IM := fun ρ s => (r ρ s).bind fun y => .ok (.own (.dct []) :: y.1, y.2)
theorem pai_nil : PA X [] (tAI X.gc p E iNil) := pa_imp pa_nil fun σ H Q ⟨F, ρ, s, pre, post⟩ => Post.okI (show Post X.gc p E F H (.ok (([] : List Itm), s)) _ Q from post) pre.ex pre.sr .nil
/-- an address that data hold is no own one -/
theorem ItsOk.mono {G : GC} {F H : Hp} : ∀ {Hs Hs' : Hp} {vs : List V} {is : List Itm}, (∀ a, Hs a = none → Hs' a = none) → ItsOk G F H Hs vs is → ItsOk G F H Hs' vs is
  | _, _, _, _, _, .nil => .nil
  | _, _, _, _, e, .data h r => .data h (ItsOk.mono e r)
  | _, _, _, _, e, .own (a := a) h1 h2 h3 r => .own h1 (e _ h2) h3 (ItsOk.mono (fun b hb => by
      by_cases q : b = a
      · rw [q, upd_same] at hb; cases hb
      · rw [upd_ne q] at hb ⊢; exact e b hb) r)
theorem pai_d {e : Expr} {es : List Expr} {f : EM} {r : IM} (h1 : PED X p E e f) (h2 : PA X es (tAI X.gc p E r)) (hs : starEach (e :: es) X.env = (false, eval e X.env) :: starEach es X.env := by rfl) : PA X (e :: es) (tAI X.gc p E (iD' f r)) :=
  pa_imp (pa_cons h1 h2 hs) fun σ H Q ⟨F, ρ, s, pre, post⟩ => ⟨F, ρ, s, pre, Post.bind post fun d1 s1 F1 x H1 e1 x1 r1 q1 post1 =>
    ⟨F1, ρ, s1, pre.next x1 r1, Post.bind post1 fun d2 s2 F2 xs H2 e2 x2 r2 q2 post2 => Post.okI (show Post X.gc p E F2 H2 (.ok (.d d1 :: d2, s2)) _ Q from post2) x2.fh r2 (.data (q1.ex x2.ff) (ItsOk.mono (fun a ha => by
      cases z : H a with
      | none => rfl
      | some o => exact absurd ha (x1.dom a (by rw [z]; simp))) q2))⟩⟩
/-- data of a new thing of one's own that later items leave alone -/
theorem pai_own {e : Expr} {es : List Expr} {te : TE} {r : IM} {c : Cell} {o : Addr → HO} (hc : ∀ F H a, H a = some (o a) → CellAt X.gc F H a c) (ho : ∀ a, nT (o a)) (h1 : PE X e te) (ht : ∀ σ H Q, (∀ q, H q = none → Q (.ref q) (upd H q (o q))) → te σ H Q)
    (h2 : PA X es (tAI X.gc p E r)) (hs : starEach (e :: es) X.env = (false, eval e X.env) :: starEach es X.env := by rfl) : PA X (e :: es) (tAI X.gc p E (fun ρ s => (r ρ s).bind fun y => .ok (.own c :: y.1, y.2))) :=
  pa_imp (pa_cons h1 h2 hs) fun σ H Q ⟨F, ρ, s, pre, post⟩ => ht σ H _ fun q hq => by
    have x1 : Ext X.gc p F H F (upd H q (o q)) := Ext.mine pre.ex hq
    have r1 : SRel X.gc p F (upd H q (o q)) s := pre.sr.ext (Ext.mine pre.ex hq)
    have hF : F q = none := by
      cases z : F q with
      | none => rfl
      | some u => rw [pre.ex q u z] at hq; cases hq
    have nq : some (PQ.sp q) ≠ p := pre.sr.ne hq
    have post' : Post X.gc p E F (upd H q (o q)) ((r ρ s).bind fun y => .ok (.own c :: y.1, y.2)) (fun F' H' vs is => ItsOk X.gc F' H' H vs is) Q := by
      have post0 : Post X.gc p E F H ((r ρ s).bind fun y => .ok (.own c :: y.1, y.2)) (fun F' H' vs is => ItsOk X.gc F' H' H vs is) Q := post
      cases hr : ((r ρ s).bind fun y => (.ok (.own c :: y.1, y.2) : R (List Itm × List D))) with
      | un => rw [hr] at post0; exact post0
      | ex e => rw [hr] at post0; exact fun F' H' x' => post0 F' H' (x1.trans x')
      | ok w => rw [hr] at post0; exact fun F' v H' x' => post0 F' v H' (x1.trans x')
    refine ⟨F, ρ, s, pre.next x1 r1, Post.bind post' fun d2 s2 F2 xs H2 e2 x2 r2 q2 post2 => Post.okI (show Post X.gc p E F2 H2 (.ok (.own c :: d2, s2)) _ Q from post2) x2.fh r2 ?_⟩
    have g1 : (upd H q (o q)) q = some (o q) := upd_same
    refine .own ((x2.own q (by rw [g1]; simp)).trans hF) hq (hc F2 H2 q (x2.st q _ nq g1 (ho q))) (ItsOk.mono (fun a ha => ?_) q2)
    by_cases z : a = q
    · rw [z, g1] at ha; cases ha
    · rw [upd_ne z] at ha ⊢; exact ha
theorem pai_l0 {es : List Expr} {r : IM} {pos : Pos} (h2 : PA X es (tAI X.gc p E r)) (hs : starEach (.List [] pos :: es) X.env = (false, eval (.List [] pos) X.env) :: starEach es X.env := by rfl) : PA X (.List [] pos :: es) (tAI X.gc p E (iL0 r)) :=
  pai_own (c := .lst []) (o := fun _ => .lst []) (fun F H a h => ⟨[], h, .nil⟩) (fun _ => nT_lst) (pe_lst pa_nil) (fun σ H Q k => ⟨Nat.zero_le _, k⟩) h2 hs
/-! storing them -/
def setV : List Nat → List V → L2.St → L2.St
  | i :: is, v :: vs, σ => setV is vs (σ.set i (some v))
  | _, _, σ => σ
def setI : List Nat → List Itm → List L → List L
  | i :: is, .d x :: vs, ρ => setI is vs (ρ.set i (.d x))
  | i :: is, .own c :: vs, ρ => setI is vs (ρ.set i (.own c))
  | _, _, ρ => ρ
theorem ItsOk.len {G : GC} {F H : Hp} : ∀ {Hs : Hp} {vs : List V} {is : List Itm}, ItsOk G F H Hs vs is → vs.length = is.length
  | _, _, _, .nil => rfl
  | _, _, _, .data _ r => congrArg (· + 1) (ItsOk.len r)
  | _, _, _, .own _ _ _ r => congrArg (· + 1) (ItsOk.len r)
theorem RelL.setIs {G : GC} {F H H0 : Hp} : ∀ {is : List Itm} {vs : List V} {js : List Nat} {Hs : Hp} {σ : L2.St} {ρ : List L}, RelL G F H H0 σ ρ → ItsOk G F H Hs vs is → (∀ a, Hs a = none → H0 a = none) → (∀ (j : Nat) a, oad σ[j]? ρ[j]? = some a → Hs a ≠ none) → RelL G F H H0 (setV js vs σ) (setI js is ρ)
  | _, _, [], _, σ, ρ, R, h, _, _ => by cases h <;> exact R
  | _, _, _ :: _, _, _, _, R, .nil, _, _ => R
  | _, _, j :: js, Hs, σ, ρ, R, .data (v := v) (x := x) h r, h0, ho => by
    show RelL G F H H0 (setV js _ (σ.set j (some v))) (setI js _ (ρ.set j (.d x)))
    refine RelL.setIs (R.setD j h) r h0 fun k a hk => ho k a ?_
    rw [get_set, get_set] at hk
    by_cases q : j = k ∧ j < ρ.length
    · rw [R.len, if_pos q, if_pos q] at hk; cases hk
    · rw [R.len, if_neg q, if_neg q] at hk; exact hk
  | _, _, j :: js, Hs, σ, ρ, R, .own (a := a) (c := c) h1 h2 h3 r, h0, ho => by
    have R' := R.setO j h1 (h0 a h2) h3 fun k _ hk => ho k a hk h2
    show RelL G F H H0 (setV js _ (σ.set j (some (.ref a)))) (setI js _ (ρ.set j (.own c)))
    refine RelL.setIs R' r (fun b hb => ?_) fun k b hk => ?_
    · by_cases q : b = a
      · rw [q, upd_same] at hb; cases hb
      · rw [upd_ne q] at hb; exact h0 b hb
    · rw [get_set, get_set] at hk
      by_cases q : j = k ∧ j < ρ.length
      · rw [R.len, if_pos q, if_pos q] at hk
        cases hk
        rw [upd_same]; simp
      · rw [R.len, if_neg q, if_neg q] at hk
        by_cases z : b = a
        · rw [z, upd_same]; simp
        · rw [upd_ne z]; exact ho k b hk
/-- may the slots be as they were behind it? -/
def Itm.light : Itm → Bool
  | .d x => flat x
  | .own (.lst []) => true
  | .own (.dct []) => true
  | _ => false
def gPar (ms : List Nat) (f : IM) (js : List Nat) : SM := fun ρ s => exprS (f (vw (fz ms ρ)) s) fun is s' => if is.length = js.length then .nx (setI js is (if is.all Itm.light then ρ else fz ms ρ)) s' else .un
theorem ItsOk.light {G : GC} {F F' H : Hp} : ∀ {Hs : Hp} {vs : List V} {is : List Itm}, ItsOk G F H Hs vs is → is.all Itm.light = true → (∀ a, Hs a = none → F' a = F a) → ItsOk G F' H Hs vs is
  | _, _, _, .nil, _, _ => .nil
  | _, _, _, .data h r, q, e => by
    rw [List.all_cons, Bool.and_eq_true] at q
    exact .data (flat_dd h q.1) (ItsOk.light r q.2 e)
  | _, _, _, .own (a := a) (c := c) h1 h2 h3 r, q, e => by
    rw [List.all_cons, Bool.and_eq_true] at q
    refine .own ((e a h2).trans h1) h2 ?_ (ItsOk.light r q.2 fun b hb => e b ?_)
    · have q1 := q.1
      cases c with
      | lst xs =>
        cases xs with
        | nil =>
          obtain ⟨vs, g1, g2⟩ := h3
          cases g2
          exact ⟨[], g1, .nil⟩
        | cons _ _ => cases q1
      | dct xs =>
        cases xs with
        | nil =>
          obtain ⟨vs, g1, g2, g3⟩ := h3
          cases g3
          exact ⟨[], g1, g2, .nil⟩
        | cons _ _ => cases q1
    · by_cases z : b = a
      · rw [z, upd_same] at hb; cases hb
      · rw [upd_ne z] at hb; exact hb
/-- as expr_run, for items -/
theorem items_run {f : IM} {ms js : List Nat} {ρ : List L} {s : List D} {En : Ends} {T : List V → Hp → Prop} (hp : ∀ a, p = some (.sp a) → H0 a ≠ none) (st : St7 X p F0 H0 F H σ ρ s) (q : PostS X p E F0 H0 F (gPar ms f js ρ s) En)
    (k : ∀ (vs : List V) (is : List Itm) (s' : List D) (F' H2 : Hp) (ρ' : List L), vs.length = js.length → St7 X p F0 H0 F' H2 (setV js vs σ) ρ' s' → Ex F F' → (∀ F'' σ' H', Ex F F'' → St7 X p F0 H0 F'' H' σ' ρ' s' → En.nx σ' H') → is = is → T vs H2) :
    tAI X.gc p E f σ H T := by
  obtain ⟨e1, e2, e3⟩ := freeze st.ext st.rl ms
  have np : ∀ a, p = some (.sp a) → fzF F H σ ρ ms a = F a := fun a ha => fzF_no fun ⟨i, hm, hi⟩ => by
    obtain ⟨c, _, _, _, q3, _⟩ := st.rl.owned hi
    exact hp a ha q3
  have sr1 : SRel X.gc p (fzF F H σ ρ ms) H s := by
    refine ⟨tbF_fz st.sr.1 st.rl ms, ?_⟩
    match p, st.sr.2, np with
    | none, h, _ => exact h
    | some (.sp a), h, np =>
      obtain ⟨h1, h2⟩ := h
      exact ⟨by rw [np a rfl]; exact h1, h2⟩
    | some (.fn F3), h, _ => exact ⟨h.1, h.2.trans e2⟩
  refine ⟨fzF F H σ ρ ms, vw (fz ms ρ), s, ⟨e1.fh, sr1, vw_rel e3⟩, ?_⟩
  unfold gPar at q
  cases hf : f (vw (fz ms ρ)) s with
  | un => rw [hf] at q; exact q
  | ex e =>
    rw [hf] at q
    have q' : ∀ F1 H, Ex F F1 → Ext X.gc p F0 H0 F1 H → ExW X.gc E e F1 H := q
    exact fun F' H' x => q' F' H' (e2.trans x.ff) (e1.trans x)
  | ok z =>
    rw [hf] at q
    intro F2 vs H2 x r hv
    obtain ⟨is, s'⟩ := z
    have q' : PostS X p E F0 H0 F (if is.length = js.length then .nx (setI js is (if is.all Itm.light then ρ else fz ms ρ)) s' else .un) En := q
    by_cases hl : is.length = js.length
    · rw [if_pos hl] at q'
      have hd0 : ∀ a, H a = none → H0 a = none := fun a ha => by
        cases z : H0 a with
        | none => rfl
        | some o => exact absurd ha (st.ext.dom a (by rw [z]; simp))
      cases hL : is.all Itm.light with
      | true =>
        rw [hL, if_pos rfl] at q'
        obtain ⟨u1, u2, u3⟩ := unfreeze st.ext st.rl hp e2 x r st.sr
        refine k vs is s' _ H2 _ ((ItsOk.len hv).trans hl) ⟨u1, u3, u2.setIs (hv.light hL fun a ha => unF_new ha) hd0 fun j a ha => ?_⟩ (fun b o hb => by rw [unF_in (by rw [hb]; simp)]; exact x.ff b o (e2 b o hb)) q' rfl
        obtain ⟨c, _, _, _, _, q4⟩ := st.rl.owned ha
        obtain ⟨o, ho⟩ := q4.there
        rw [ho]; simp
      | false =>
        rw [hL, if_neg Bool.false_ne_true] at q'
        have R2 : RelL X.gc F2 H2 H0 σ (fz ms ρ) := e3.mono x.ff fun i a ha => by
          obtain ⟨c, _, _, q2, q3, q4⟩ := e3.owned ha
          obtain ⟨o, ho⟩ := q4.there
          exact ⟨(x.own a (by rw [ho]; simp)).trans q2, fun o' h' w => x.st a o' (fun z => hp a z.symm q3) h' w⟩
        refine k vs is s' F2 H2 _ ((ItsOk.len hv).trans hl) ⟨e1.trans x, r, R2.setIs hv hd0 fun j a ha => ?_⟩ (e2.trans x.ff) q' rfl
        obtain ⟨c, _, _, _, _, q4⟩ := e3.owned ha
        obtain ⟨o, ho⟩ := q4.there
        rw [ho]; simp
    · rw [if_neg hl] at q'; exact q'.elim
theorem len2 {vs : List V} (h : vs.length = 2) : ∃ a b, vs = [a, b] := by
  match vs, h with
  | [a, b], _ => exact ⟨a, b, rfl⟩
theorem len3 {vs : List V} (h : vs.length = 3) : ∃ a b c, vs = [a, b, c] := by
  match vs, h with
  | [a, b, c], _ => exact ⟨a, b, c, rfl⟩
theorem psd_par2 {i j : Nat} {x y : Str} {a b : Expr} {f : IM} {ms : List Nat} {px py pt pos : Pos} {kt k2 pt2} (hp : ∀ a, p = some (.sp a) → H0 a ≠ none) (hc : X.calm = true) (hN : X.N.Nodup) (hi : X.N[i]? = some x) (hj : X.N[j]? = some y) (hij : i ≠ j)
    (hx : X.env.scope.names.lookup x = some .local) (hy : X.env.scope.names.lookup y = some .local) (ha : PA X [a, b] (tAI X.gc p E f))
    (hw : swappedStores [.Tuple [.Name x px, .Name y py] kt pt] (.Tuple [a, b] k2 pt2) X.env = pure (some [x, y]))
    (hs : swapsWithSole [.Tuple [.Name x px, .Name y py] kt pt] (.Tuple [a, b] k2 pt2) pos.line X.env = pure false := by rfl) : PSD X p E F0 H0 (.Assign [.Tuple [.Name x px, .Name y py] kt pt] (.Tuple [a, b] k2 pt2) pos) (gPar ms f [i, j]) :=
  ps_imp (ps_par hc hN hi hj hij hx hy ha hw hs) fun En σ H ⟨F, ρ, s, st, q⟩ => items_run hp st q fun vs is s' F' H2 ρ' hl st' e' k _ => by
    obtain ⟨v, w, rfl⟩ := len2 hl
    exact ⟨v, w, rfl, k F' _ H2 e' st'⟩
theorem psd_par3 {i j l : Nat} {x y z : Str} {a b c : Expr} {f : IM} {ms : List Nat} {px py pz pt pos : Pos} {kt k2 pt2} (hp : ∀ a, p = some (.sp a) → H0 a ≠ none) (hc : X.calm = true) (hN : X.N.Nodup) (hi : X.N[i]? = some x) (hj : X.N[j]? = some y) (hl : X.N[l]? = some z) (hij : i ≠ j) (hil : i ≠ l) (hjl : j ≠ l)
    (hx : X.env.scope.names.lookup x = some .local) (hy : X.env.scope.names.lookup y = some .local) (hz : X.env.scope.names.lookup z = some .local) (ha : PA X [a, b, c] (tAI X.gc p E f))
    (hw : swappedStores [.Tuple [.Name x px, .Name y py, .Name z pz] kt pt] (.Tuple [a, b, c] k2 pt2) X.env = pure (some [x, y, z]))
    (hs : swapsWithSole [.Tuple [.Name x px, .Name y py, .Name z pz] kt pt] (.Tuple [a, b, c] k2 pt2) pos.line X.env = pure false := by rfl) : PSD X p E F0 H0 (.Assign [.Tuple [.Name x px, .Name y py, .Name z pz] kt pt] (.Tuple [a, b, c] k2 pt2) pos) (gPar ms f [i, j, l]) :=
  ps_imp (ps_par3 hc hN hi hj hl hij hil hjl hx hy hz ha hw hs) fun En σ H ⟨F, ρ, s, st, q⟩ => items_run hp st q fun vs is s' F' H2 ρ' hlen st' e' k _ => by
    obtain ⟨u, v, w, rfl⟩ := len3 hlen
    exact ⟨u, v, w, rfl, k F' _ H2 e' st'⟩
/-- by a tuple: more names, or a name that is a cell -/
theorem psd_parT {es ts : List Expr} {js : List Nat} {f : IM} {ms : List Nat} {n : Nat} {k1 k2 : Nat} {pt pt2 pos : Pos} {tgs : TGs} (hp : ∀ a, p = some (.sp a) → H0 a ≠ none) (hn : js.length = n) (hsz : small n = true) (ha : PA X es (tAI X.gc p E f)) (hg : PG X (.Tuple ts k1 pt) (gTup X.K n tgs))
    (ht : ∀ (vs : List V) (σ : L2.St) (H : Hp) (Q : L2.St → Hp → Prop), vs.length = n → Q (setV js vs σ) H → tgs vs σ H Q)
    (hs : swapsWithSole [.Tuple ts k1 pt] (.Tuple es k2 pt2) pos.line X.env = pure false := by rfl) (hw : swappedStores [.Tuple ts k1 pt] (.Tuple es k2 pt2) X.env = pure none := by rfl) (h1 : (assignEach [.Tuple ts k1 pt] X.env).map (·.2) = [assign (.Tuple ts k1 pt) X.env] := by rfl) :
    PSD X p E F0 H0 (.Assign [.Tuple ts k1 pt] (.Tuple es k2 pt2) pos) (gPar ms f js) :=
  ps_imp (ps_asg (pe_tup ha) hg hs hw h1) fun En σ H ⟨F, ρ, s, st, q⟩ => items_run hp st q fun vs is s' F' H2 ρ' hlen st' e' k _ => by
    refine ⟨by rw [hlen, hn]; exact Nat.le_of_lt (small_line hsz), fun a ha => ⟨a, vs, rfl, SqT.of upd_same, hlen.trans hn, ht _ _ _ _ (hlen.trans hn) ?_⟩⟩
    have hE : ExtN X.gc F' H2 F' (upd H2 a (.tup vs)) := Ext.mine st'.ext.fh ha
    refine k F' _ _ e' ⟨st'.ext.trans hE.weak, st'.sr.ext hE, st'.rl.mono (Ex.refl F') fun j b hb => ?_⟩
    obtain ⟨c, _, _, q2, _, _⟩ := st'.rl.owned hb
    exact ⟨q2, fun o' h' w => hE.ex b o' h' w⟩
end
end DL
end

section
set_option Elab.async false
set_option linter.all false
set_option maxRecDepth 100000
set_option maxHeartbeats 4000000
/-! The data layer, part 12: dicts whose keys are tuples. -/
namespace DL
open PySem PySem.Spec PyProof.Rows L2
def dget (kvs : List (D × D)) (k : D) : Option D := (kvs.find? fun q => decide (toKey q.1 = toKey k)).map (·.2)
def dput (kvs : List (D × D)) (k v : D) : List (D × D) := if (dget kvs k).isSome = true then kvs.map (fun q => if toKey q.1 = toKey k then (q.1, v) else q) else kvs ++ [(k, v)]
abbrev dTup (kvs : List (D × D)) : Bool := kvs.all fun q => keyT true q.1
section
variable {X : Cx} {pins : List (Addr × Obj)} {σ : L2.St} {F H : Hp} {s : Shared}
mutual
/-- data that may be a key are one -/
theorem dd_key (I : Inv X pins σ H s) (e : Ex F H) : ∀ (d : D) (v : V) (u : Value), DD X.gc F v d → keyOk d = true → RelV v u → NestedIs s.heap (toKey d) u
  | .none, v, u, h, _, r => by
    cases h
    cases u <;> first | exact .none | exact (show False from r).elim | cases r
  | .bool b, v, u, h, _, r => by
    cases h
    obtain rfl : u = Value.bool b := r
    exact .bool rfl
  | .int i, v, u, h, _, r => by
    cases h
    obtain ⟨t, rfl⟩ := (show ∃ t, u = Value.int i t from r)
    exact .int i t
  | .str x, v, u, h, _, r => by
    cases h
    obtain ⟨t, rfl⟩ := (show ∃ t, u = Value.str x t from r)
    exact .text x t
  | .list ds, v, u, h, q, r => by simp [keyOk] at q
  | .dict ds, v, u, h, q, r => by simp [keyOk] at q
  | .tuple ds, v, u, h, q, r => by
    cases h with
    | @tup a xs ds h1 h2 =>
      obtain rfl : u = Value.ref a := r
      obtain ⟨its, rv, ⟨o, g1, g2, n, g3⟩, _⟩ := I.tuple (ex_t e h1)
      exact .tup g1 g2 g3 (dds_key I e ds xs its h2 (by simpa only [keyOk] using q) rv)
theorem dds_key (I : Inv X pins σ H s) (e : Ex F H) : ∀ (ds : List D) (vs : List V) (us : List Value), DDs X.gc F vs ds → keyOk.keysOk ds = true → Vals vs us → NestedAll s.heap (toKey.toKeys ds) us
  | [], vs, us, h, _, r => by cases h; cases r; exact .nil
  | d :: ds, vs, us, h, q, r => by
    cases h with
    | cons h1 h2 =>
      cases r with
      | cons r1 r2 =>
        simp only [keyOk.keysOk, Bool.and_eq_true] at q
        exact .cons (dd_key I e d _ _ h1 q.1 r1) (dds_key I e ds _ _ h2 q.2 r2)
end
/-- the pairs as the library has them -/
abbrev XR (G : GC) (F : Hp) : List (D × D) → List (NestedKey × Addr × Value) → Prop := Paired fun q x => x.1 = toKey q.1 ∧ DD G F (.ref x.2.1) q.1 ∧ ∃ v, RelV v x.2.2 ∧ DD G F v q.2
theorem keyT_tup {k : D} (h : keyT true k = true) : keyOk k = true ∧ (∃ ds, k = .tuple ds) ∧ (toKey k).depth ≤ 8 := by
  unfold keyT at h
  obtain ⟨a, b⟩ := band h
  obtain ⟨b, c⟩ := band b
  refine ⟨a, ?_, of_decide_eq_true c⟩
  cases k <;> simp [isTup] at b
  exact ⟨_, rfl⟩
theorem xr_of {G : GC} : ∀ {es : List DictEntry} {kvs : List (D × D)}, DE G F es kvs → dTup kvs = true → ∃ xs, XR G F kvs xs ∧ es = xs.map (entryOfKey (nestedKind G.P G.w))
  | _, _, .nil, _ => ⟨[], .nil, rfl⟩
  | _, _, .cons (en := en) (k := k) (v := v) a b c d f g, q => by
    rw [dTup, List.all_cons, Bool.and_eq_true] at q
    obtain ⟨xs, h1, h2⟩ := xr_of g q.2
    obtain ⟨_, ⟨ds, rfl⟩, _⟩ := keyT_tup q.1
    cases c with
    | @tup a' us ds h3 h4 =>
      have ek : en.key = Value.ref a' := b
      refine ⟨(toKey (.tuple ds), a', en.val) :: xs, .cons ⟨rfl, .tup h3 h4, v, d, f⟩ h1, ?_⟩
      rw [List.map_cons, ← h2]
      congr 1
      obtain ⟨hash, key, val⟩ := en
      simp only at ek a
      subst ek a
      rfl
theorem de_of {G : GC} : ∀ {kvs : List (D × D)} {xs : List (NestedKey × Addr × Value)}, XR G F kvs xs → DE G F (xs.map (entryOfKey (nestedKind G.P G.w))) kvs
  | _, _, .nil => .nil
  | (k, d) :: _, (x, a, u) :: _, .cons h t => by
    obtain ⟨h1, h2, v, h3, h4⟩ := h
    have h1' : x = toKey k := h1
    subst h1'
    exact .cons (kv := .ref a) rfl (show RelV (.ref a) (Value.ref a) from rfl) h2 h3 h4 (de_of t)
theorem xr_keys {G : GC} : ∀ {kvs : List (D × D)} {xs : List (NestedKey × Addr × Value)}, XR G F kvs xs → xs.map (·.1) = kvs.map fun q => toKey q.1
  | _, _, .nil => rfl
  | _, _, .cons h t => by rw [List.map_cons, List.map_cons, xr_keys t, h.1]
theorem xr_len {G : GC} {kvs : List (D × D)} {xs : List (NestedKey × Addr × Value)} (h : XR G F kvs xs) : xs.length = kvs.length := by
  have := congrArg List.length (xr_keys h)
  simpa using this
theorem dget_nil {k : D} : dget [] k = none := rfl
theorem dget_pos {q : D × D} {r : List (D × D)} {k : D} (e : toKey q.1 = toKey k) : dget (q :: r) k = some q.2 := by simp [dget, List.find?_cons, e]
theorem dget_neg {q : D × D} {r : List (D × D)} {k : D} (e : ¬ toKey q.1 = toKey k) : dget (q :: r) k = dget r k := by simp [dget, List.find?_cons, e]
theorem xr_get {G : GC} (k : D) : ∀ {kvs : List (D × D)} {xs : List (NestedKey × Addr × Value)}, XR G F kvs xs →
    (dget kvs k = none ∧ atKey xs (toKey k) = none) ∨ ∃ d p v, dget kvs k = some d ∧ atKey xs (toKey k) = some p ∧ RelV v p.2 ∧ DD G F v d
  | _, _, .nil => .inl ⟨rfl, rfl⟩
  | q :: ps, x :: xs, .cons h t => by
    obtain ⟨h1, h2, v, h3, h4⟩ := h
    by_cases e : toKey q.1 = toKey k
    · exact .inr ⟨q.2, x.2, v, dget_pos e, by simp [atKey, List.find?_cons, h1.trans e], h3, h4⟩
    · have e' : ¬ x.1 = toKey k := fun z => e (h1.symm.trans z)
      rw [dget_neg e, show atKey (x :: xs) (toKey k) = atKey xs (toKey k) from by simp [atKey, List.find?_cons, e']]
      exact xr_get k t
theorem xr_map {G : GC} {k d : D} {v : V} {u : Value} (r : RelV v u) (hd : DD G F v d) : ∀ {kvs : List (D × D)} {xs : List (NestedKey × Addr × Value)}, XR G F kvs xs →
    XR G F (kvs.map fun q => if toKey q.1 = toKey k then (q.1, d) else q) (xs.map (putAt (toKey k) u))
  | _, _, .nil => .nil
  | q :: ps, x :: xs, .cons h t => by
    rw [List.map_cons, List.map_cons]
    refine .cons ?_ (xr_map r hd t)
    obtain ⟨h1, h2, v', h3, h4⟩ := h
    unfold putAt
    by_cases e : toKey q.1 = toKey k
    · rw [if_pos e, if_pos (h1.trans e)]
      exact ⟨h1, h2, v, r, hd⟩
    · rw [if_neg e, if_neg (fun z => e (h1.symm.trans z))]
      exact ⟨h1, h2, v', h3, h4⟩
theorem xr_put {G : GC} {k d : D} {b : Addr} {v : V} {u : Value} {kvs : List (D × D)} {xs : List (NestedKey × Addr × Value)} (h : XR G F kvs xs) (hk : DD G F (.ref b) k) (r : RelV v u) (hd : DD G F v d) :
    XR G F (dput kvs k d) (storedH xs (toKey k) b u) := by
  unfold dput storedH
  rcases xr_get k h with ⟨e1, e2⟩ | ⟨d', p, v', e1, e2, _⟩
  · rw [e1, e2]
    exact Paired.snoc h ⟨rfl, hk, v, r, hd⟩
  · rw [e1, e2]
    exact xr_map r hd h
/-- the dict's object -/
theorem dict_at {a : Addr} {es : List DictEntry} {kvs : List (D × D)} {xs : List (NestedKey × Addr × Value)} (I : Inv X pins σ H s) (e : Ex F H) (ha : H a = some (dO a es)) (hk : dictOk kvs = true) (ht : dTup kvs = true)
    (hx : XR X.gc F kvs xs) (he : es = xs.map (entryOfKey (nestedKind X.prog X.w))) : (a == sysModules) = false ∧ s.heap.DictOfH (nestedKind X.prog X.w) a xs := by
  obtain ⟨⟨z, o, ep, h1, h2, h3⟩, _⟩ := (show ObjOk X.prog X.w H s.heap a (dO a es) from I.hok a _ ha)
  refine ⟨z, o, _, ep, h1, h2, h3, by rw [he], ?_, ?_⟩
  · have all : ∀ {kvs : List (D × D)} {xs : List (NestedKey × Addr × Value)}, XR X.gc F kvs xs → dTup kvs = true → ∀ x ∈ xs, (nestedKind X.prog X.w).is s.heap x.1 x.2.1 := by
      intro kvs xs q
      induction q with
      | nil => intro _ x hx; exact nomatch hx
      | @cons p q ps qs hq t ih =>
        intro ht x hx
        rw [dTup, List.all_cons, Bool.and_eq_true] at ht
        rcases List.mem_cons.mp hx with e' | hx
        · subst e'
          obtain ⟨k1, _, k3⟩ := keyT_tup ht.1
          rw [hq.1]
          exact ⟨dd_key I e _ _ _ hq.2.1 k1 rfl, k3⟩
        · exact ih ht.2 x hx
    exact all hx ht
  · rw [xr_keys hx]
    exact of_decide_eq_true (band (band hk).2).1
theorem key_at {a : Addr} {k : D} (I : Inv X pins σ H s) (e : Ex F H) (h : DD X.gc F (.ref a) k) (hk : keyT true k = true) : (nestedKind X.prog X.w).is s.heap (toKey k) a := by
  obtain ⟨k1, _, k3⟩ := keyT_tup hk
  exact ⟨dd_key I e _ _ _ h k1 rfl, k3⟩
/-- y in d, y not in d -/
def rDIn (G : GC) (neg : Bool) : R2 := fun x y H Q => ∃ F k kvs, Ex F H ∧ DD G F x k ∧ DD G F y (.dict kvs) ∧ keyT true k = true ∧ dTup kvs = true ∧ Q (.bl (xor neg (dget kvs k).isSome)) H
theorem dct_inv {G : GC} {v : V} {kvs : List (D × D)} (h : DD G F v (.dict kvs)) (ht : dTup kvs = true) : ∃ a es, v = .ref a ∧ F a = some (dO a es) ∧ dictOk kvs = true ∧ DE G F es kvs := by
  cases h with
  | dct h1 h2 h3 => exact ⟨_, _, rfl, h1, h2, h3⟩
  | opq a => simp [dTup, keyT, isTup, keyOk] at ht
theorem key_ref {G : GC} {v : V} {k : D} (h : DD G F v k) (hk : keyT true k = true) : ∃ b, v = .ref b := by
  obtain ⟨_, ⟨ds, rfl⟩, _⟩ := keyT_tup hk
  cases h with
  | tup _ _ => exact ⟨_, rfl⟩
theorem room_n {A : Around} (hu : A.units + 64 < cLine) : (nestedKind X.prog X.w).room A.in1 := by
  show A.in1.units + 8 < cLine
  rw [Around.in1_units]; omega
theorem or_dIn (hu : X.A.units + 64 < cLine) : OpR X (compareOp .In) (rDIn X.gc false) := fun pins s σ H x y v u Q I rx ry ⟨F, k, kvs, e, hx, hy, hk, ht, q⟩ => by
  obtain ⟨a, es, rfl, h1, h2, h3⟩ := dct_inv hy ht
  obtain ⟨b, rfl⟩ := key_ref hx hk
  obtain rfl : u = Value.ref a := ry
  obtain rfl : v = Value.ref b := rx
  obtain ⟨xs, hr, he⟩ := xr_of h3 ht
  obtain ⟨d1, d2⟩ := dict_at I e (e _ _ h1) h2 ht hr he
  refine wpAny_in_heap (room_n hu) (key_at I e hx hk) d1 d2 ⟨_, _, I.tok _, ?_, q⟩
  rcases xr_get k hr with ⟨e1, e2⟩ | ⟨_, _, _, e1, e2, _⟩ <;> rw [e1, e2] <;> rfl
theorem or_dNotIn (hu : X.A.units + 64 < cLine) : OpR X (compareOp .NotIn) (rDIn X.gc true) := fun pins s σ H x y v u Q I rx ry ⟨F, k, kvs, e, hx, hy, hk, ht, q⟩ => by
  obtain ⟨a, es, rfl, h1, h2, h3⟩ := dct_inv hy ht
  obtain ⟨b, rfl⟩ := key_ref hx hk
  obtain rfl : u = Value.ref a := ry
  obtain rfl : v = Value.ref b := rx
  obtain ⟨xs, hr, he⟩ := xr_of h3 ht
  obtain ⟨d1, d2⟩ := dict_at I e (e _ _ h1) h2 ht hr he
  refine wpAny_notIn_heap (room_n hu) (key_at I e hx hk) d1 d2 ⟨_, _, I.tok _, ?_, q⟩
  rcases xr_get k hr with ⟨e1, e2⟩ | ⟨_, _, _, e1, e2, _⟩ <;> rw [e1, e2] <;> rfl
def dinD (x y : D) : Option D := match y with
  | .dict kvs => if keyT true x && dTup kvs then some (.bool (dget kvs x).isSome) else none
  | _ => none
def dnotInD (x y : D) : Option D := match y with
  | .dict kvs => if keyT true x && dTup kvs then some (.bool (!(dget kvs x).isSome)) else none
  | _ => none
theorem od_dIn {G : GC} : OpD G (rDIn G false) dinD := fun F H x y dx dy z Q e hx hy h k => by
  unfold dinD at h
  split at h
  · obtain ⟨hs, rfl⟩ := ifSome h
    obtain ⟨h1, h2⟩ := band hs
    refine ⟨F, dx, _, e, hx, hy, h1, h2, ?_⟩
    rw [Bool.false_xor]
    exact stays e k (.bl _)
  · cases h
theorem od_dNotIn {G : GC} : OpD G (rDIn G true) dnotInD := fun F H x y dx dy z Q e hx hy h k => by
  unfold dnotInD at h
  split at h
  · obtain ⟨hs, rfl⟩ := ifSome h
    obtain ⟨h1, h2⟩ := band hs
    refine ⟨F, dx, _, e, hx, hy, h1, h2, ?_⟩
    rw [Bool.true_xor]
    exact stays e k (.bl _)
  · cases h
end
end DL
end

section
set_option Elab.async false
set_option linter.all false
set_option maxRecDepth 100000
set_option maxHeartbeats 4000000
/-! The data layer, part 13: d[k] = v, d.get(k), {} as an item. -/
namespace DL
open PySem PySem.Spec PyProof.Rows L2
section
variable {X : Cx} {p : Option PQ} {E : XK} {F0 H0 F H : Hp} {σ : L2.St} {ρ : List L} {s : List D}
/-- {}, its entries known -/
def tDNewE : TE := fun _ H Q => ∀ q, H q = none → Q (.ref q) (upd H q (dO q []))
theorem dE_empty {P : Program} {w : World} {H : Hp} (h : Heap) (hb : sysModules < h.objs.size) : ObjOk P w H (h.push { cls := .type "dict", data := .dict #[] }) h.objs.size (dO h.objs.size []) :=
  ⟨⟨beq_eq_false_iff_ne.mpr (Ne.symm (Nat.ne_of_lt hb)), _, 0, Heap.get?_push_size _ rfl, ⟨rfl, rfl, rfl⟩, rfl⟩, ⟨_, Heap.get?_push_size _ rfl⟩, fun h1 h2 ⟨a, o, ep, e1, e2⟩ k => ⟨a, o, ep, k _ e1, e2⟩⟩
theorem pe_dnewE {pos : Pos} : PE X (.Dict [] [] pos) tDNewE := ⟨fun pins s σ H Q I h =>
  wpAny_Dict_empty ⟨.ref s.heap.objs.size, _, I.laid (a := s.heap.objs.size) (o := dO s.heap.objs.size []) (t' := s.toks) (fun _ _ q => Heap.get?_push_of_some _ q) (Nat.le_refl _) (dE_empty s.heap I.big), rfl, h _ (I.hok.fresh (Nat.le_refl _))⟩⟩
theorem cell_d0 {G : GC} {F H : Hp} {a : Addr} (h : H a = some (dO a [])) : CellAt G F H a (.dct []) := ⟨[], h, by decide, .nil⟩
theorem pai_k0 {es : List Expr} {r : IM} {pos : Pos} (h2 : PA X es (tAI X.gc p E r)) (hs : starEach (.Dict [] [] pos :: es) X.env = (false, eval (.Dict [] [] pos) X.env) :: starEach es X.env := by rfl) : PA X (.Dict [] [] pos :: es) (tAI X.gc p E (iK0 r)) :=
  pai_own (c := .dct []) (o := fun a => dO a []) (fun F H a h => cell_d0 h) (fun _ => nT_ext) pe_dnewE (fun σ H Q k => k) h2 hs
/-- x = {} -/
def gAsgK (i : Nat) : SM := fun ρ s => .nx (ρ.set i (.own (.dct []))) s
theorem psd_asgK {i : Nat} {tg : Expr} {pos pos' : Pos} (hp : ∀ a, p = some (.sp a) → H0 a ≠ none) (hg : PG X tg (gName i)) (hs : swapsWithSole [tg] (.Dict [] [] pos') pos.line X.env = pure false := by rfl) (hw : swappedStores [tg] (.Dict [] [] pos') X.env = pure none := by rfl)
    (h1 : (assignEach [tg] X.env).map (·.2) = [assign tg X.env] := by rfl) : PSD X p E F0 H0 (.Assign [tg] (.Dict [] [] pos') pos) (gAsgK i) :=
  ps_imp (ps_asg pe_dnewE hg hs hw h1) fun D σ H ⟨F, ρ, s, st, q⟩ => fun a ha => by
    have hF : F a = none := by
      cases z : F a with
      | none => rfl
      | some o => rw [st.ext.fh a o z] at ha; cases ha
    have hH0 : H0 a = none := by
      cases z : H0 a with
      | none => rfl
      | some o => exact absurd ha (st.ext.dom a (by rw [z]; simp))
    have hE : Ext X.gc none F H F (upd H a (dO a [])) := Ext.mine st.ext.fh ha
    have hR : RelL X.gc F (upd H a (dO a [])) H0 σ ρ := st.rl.mono (Ex.refl F) fun j b hb => by
      obtain ⟨c, _, _, q2, q3, q4⟩ := st.rl.owned hb
      exact ⟨q2, fun o' h' _ => by rw [upd_ne (ne_of_none h' ha)]; exact h'⟩
    refine q F _ _ (Ex.refl F) ⟨st.ext.trans hE.weak, st.sr.ext hE, hR.setO i hF hH0 (cell_d0 upd_same) fun j _ hj => ?_⟩
    obtain ⟨c, _, _, _, _, q4⟩ := st.rl.owned hj
    obtain ⟨o, ho⟩ := q4.there
    rw [ha] at ho; cases ho
/-! ### d[k] = v, the dict one's own -/
def sDPutE (G : GC) (td ty tv : TE) : TS := fun D σ H => tv σ H fun v H1 => td σ H1 fun x H2 => ty σ H2 fun y H3 => ∃ F a es kvs k d, x = .ref a ∧ Ex F H3 ∧ F a = none ∧ H3 a = some (dO a es) ∧ dictOk kvs = true ∧ dTup kvs = true ∧ DE G F es kvs ∧
  DD G F y k ∧ keyT true k = true ∧ DD G F v d ∧ ∀ es', DE G F es' (dput kvs k d) → D.nx σ (upd H3 a (dO a es'))
theorem ps_dputE {o i value : Expr} {pos pos' : Pos} {td ty tv : TE} (hu : X.A.units + 64 < cLine) (ho : PE X o td) (hi : PE X i ty) (hv : PE X value tv) (hs : swapsWith value (some (.Subscript o i pos')) pos.line X.env = pure false) :
    PS X (.Assign [.Subscript o i pos'] value pos) (sDPutE X.gc td ty tv) := by
  refine ⟨fun pins s σ H D I h => ?_⟩
  refine wpAny_Assign_Subscript (thn (hv.run pins s σ H _ I h) fun r s1 ⟨v, H1, I1, rv, q1⟩ => thn (ho.run pins s1 σ H1 _ I1 q1) fun u s2 ⟨x, H2, I2, rx, q2⟩ => thn (hi.run pins s2 σ H2 _ I2 q2) fun iv s3 ⟨y, H3, I3, ry, F, a, es, kvs, k, d, ex, e, hF, ha, hk, ht, hde, hy, hky, hd, q3⟩ => ?_) hs
  subst ex
  obtain rfl : u = Value.ref a := rx
  obtain ⟨b, rfl⟩ := key_ref hy hky
  obtain rfl : iv = Value.ref b := ry
  obtain ⟨xs, hr, he⟩ := xr_of hde ht
  obtain ⟨d1, d2⟩ := dict_at I3 e ha hk ht hr he
  have hz : xs.length ≤ sizeLine := by
    rw [xr_len hr]
    have : kvs.length ≤ 1000000 := of_decide_eq_true (band (band hk).2).2
    exact Nat.le_trans this (by decide)
  refine wpAny_setItem_heap (hsz := hz) (room_n hu) (key_at I3 e hy hky) d2 fun h' dd' hs => ?_
  obtain ⟨ob, es', ep, hq, g2, g3, g4, _, _⟩ := dd'
  refine ⟨σ, _, I3.write (x := a) (e := a) (by rw [ha]; exact True.intro) (.inl rfl) (fun b q hb z => (hs.2 b hb).trans z) ⟨_, hq⟩ ?_, q3 _ (de_of (xr_put hr hy rv hd))⟩
  refine ⟨⟨d1, ob, ep, hq, g2, by rw [g3, ← g4]⟩, ⟨_, hq⟩, fun h1 h2 ⟨z, o, ep, e1, e2⟩ k => ⟨z, o, ep, k _ e1, e2⟩⟩
theorem ok_put {kvs : List (D × D)} {k d : D} (h : dictOk kvs = true) (ht : dTup kvs = true) (hk : keyT true k = true) (hl : small (kvs.length + 1) = true) : dictOk (dput kvs k d) = true ∧ dTup (dput kvs k d) = true := by
  obtain ⟨a, b⟩ := band h
  obtain ⟨b1, b2⟩ := band b
  have nd := of_decide_eq_true b1
  have hd : dTup (dput kvs k d) = true := by
    unfold dput
    split
    · unfold dTup at ht ⊢
      rw [List.all_map, List.all_eq_true] at *
      intro x hx
      have := ht x hx
      show keyT true (if toKey x.1 = toKey k then (x.1, d) else x).1 = true
      split <;> exact this
    · have ht' : (kvs.all fun q => keyT true q.1) = true := ht
      rw [dTup, List.all_append, ht']
      simp [hk]
  refine ⟨?_, hd⟩
  unfold dictOk
  have hd' : ((dput kvs k d).all fun q => keyT true q.1) = true := hd
  rw [hd', Bool.true_or, Bool.true_and, Bool.and_eq_true]
  unfold dput
  split
  · rename_i hs
    rw [List.map_map]
    have e : (kvs.map ((fun q => toKey q.1) ∘ fun q => if toKey q.1 = toKey k then (q.1, d) else q)) = kvs.map fun q => toKey q.1 := List.map_congr_left fun q _ => by
      show toKey (if toKey q.1 = toKey k then (q.1, d) else q).1 = toKey q.1
      split <;> rfl
    rw [e, List.length_map]
    exact ⟨b1, b2⟩
  · rename_i hs
    refine ⟨decide_eq_true ?_, by rw [List.length_append]; exact hl⟩
    rw [List.map_append, List.nodup_append]
    refine ⟨nd, by simp, fun x hx y hy => ?_⟩
    have hy' : y = toKey k := by simpa using hy
    subst hy'
    intro z
    subst z
    obtain ⟨q, hq, e⟩ := List.mem_map.mp hx
    have : (dget kvs k).isSome = true := by
      unfold dget
      rw [Option.isSome_map, List.find?_isSome]
      exact ⟨q, hq, decide_eq_true e⟩
    exact hs this
/-- d[k] = v: first v, then k -/
def gPut (mv mk : List Nat) (i : Nat) (fk fv : EM) : SM := fun ρ s => match ρ[i]? with
  | some (.own (.dct kvs)) => if mv.contains i || mk.contains i then .un else exprS (fv (vw (fz mv ρ)) s) fun d s1 =>
      exprS (fk (vw (fz mk (if flat d then ρ else fz mv ρ))) s1) fun k s2 => if dTup kvs && (keyT true k && small (kvs.length + 1)) then .nx ((fz mk (if flat d then ρ else fz mv ρ)).set i (.own (.dct (dput kvs k d)))) s2 else .un
  | _ => .un
theorem own_keep {ρ ρ' : List L} {i : Nat} {ms : List Nat} (h : ms.contains i = false) (e : ρ' = ρ ∨ ρ' = fz ms ρ) : ρ'[i]? = ρ[i]? := by
  rcases e with rfl | rfl
  · rfl
  · exact fz_other h
theorem psd_put {x i value : Expr} {fk fv : EM} {j : Nat} {mv mk : List Nat} {pos pos' : Pos} (hp : ∀ a, p = some (.sp a) → H0 a ≠ none) (hu : X.A.units + 64 < cLine) (hx : PE X x (tVar j)) (hk : PED X p E i fk) (hv : PED X p E value fv)
    (hs : swapsWith value (some (.Subscript x i pos')) pos.line X.env = pure false := by rfl) : PSD X p E F0 H0 (.Assign [.Subscript x i pos'] value pos) (gPut mv mk j fk fv) :=
  ps_imp (ps_dputE hu hx hk hv hs) fun En σ H ⟨F, ρ, s, st, q⟩ => by
    unfold gPut at q
    cases hj : ρ[j]? with
    | none => rw [hj] at q; exact q.elim
    | some l =>
      rw [hj] at q
      cases l with
      | un => exact q.elim
      | d _ => exact q.elim
      | own c =>
        cases c with
        | lst _ => exact q.elim
        | dct kvs =>
          cases hm : (mv.contains j || mk.contains j) with
          | true => simp only [hm] at q; exact q.elim
          | false =>
            simp only [hm] at q
            rw [Bool.or_eq_false_iff] at hm
            have q' : PostS X p E F0 H0 F (exprS (fv (vw (fz mv ρ)) s) fun d s1 => exprS (fk (vw (fz mk (if flat d then ρ else fz mv ρ))) s1) fun k s2 => if dTup kvs && (keyT true k && small (kvs.length + 1)) then .nx ((fz mk (if flat d then ρ else fz mv ρ)).set j (.own (.dct (dput kvs k d)))) s2 else .un) En := q
            refine expr_run hp st q' fun d s1 F1 v H1 st1 e1 ⟨F1', st1', e1'⟩ hv q1 => ?_
            -- the state behind the value
            have step : ∀ (Fa : Hp) (ρa : List L), St7 X p F0 H0 Fa H1 σ ρa s1 → Ex F Fa → DD X.gc Fa v d → ρa[j]? = some (.own (.dct kvs)) → PostS X p E F0 H0 Fa (exprS (fk (vw (fz mk ρa)) s1) fun k s2 => if dTup kvs && (keyT true k && small (kvs.length + 1)) then .nx ((fz mk ρa).set j (.own (.dct (dput kvs k d)))) s2 else .un) En →
                tVar j σ H1 fun x H2 => tD X.gc p E fk σ H2 fun y H3 => ∃ F a es kvs k d, x = .ref a ∧ Ex F H3 ∧ F a = none ∧ H3 a = some (dO a es) ∧ dictOk kvs = true ∧ dTup kvs = true ∧ DE X.gc F es kvs ∧
                  DD X.gc F y k ∧ keyT true k = true ∧ DD X.gc F v d ∧ ∀ es', DE X.gc F es' (dput kvs k d) → En.nx σ (upd H3 a (dO a es')) := fun Fa ρa sta ea hva hja qa => by
              obtain ⟨a, g1, g2, g3, es, g4, g5, g6⟩ := sta.rl.at_ j _ hja
              refine ⟨.ref a, g1, ?_⟩
              refine expr_run hp sta qa fun k s2 F2 y H2 st2 e2 _ hy q2 => ?_
              have q2' : PostS X p E F0 H0 Fa (if (dTup kvs && (keyT true k && small (kvs.length + 1))) = true then .nx ((fz mk ρa).set j (.own (.dct (dput kvs k d)))) s2 else .un) En := q2
              cases hz : (dTup kvs && (keyT true k && small (kvs.length + 1))) with
              | false => rw [hz, if_neg Bool.false_ne_true] at q2'; exact q2'.elim
              | true =>
                rw [hz, if_pos rfl] at q2'
                obtain ⟨z1, z2⟩ := band hz
                obtain ⟨z2, z3⟩ := band z2
                have hj2 : (fz mk ρa)[j]? = some (.own (.dct kvs)) := (fz_other hm.2).trans hja
                obtain ⟨a', k1, k2, k3, es2, k4, k5, k6⟩ := st2.rl.at_ j _ hj2
                rw [g1] at k1
                cases k1
                have o3 : oad σ[j]? (fz mk ρa)[j]? = some a := by rw [hj2, g1]; rfl
                refine ⟨F2, a, es2, kvs, k, d, rfl, st2.ext.fh, k2, k4, k5, z1, k6, hy, z2, hva.ex e2, fun es' hde => ?_⟩
                obtain ⟨p1, p2⟩ := ok_put (d := d) k5 z1 z2 z3
                refine q2' F2 _ _ e2 ⟨⟨st2.ext.ff, fun b o hb => ?_, st2.ext.own, fun b o n hb w => ?_, fun b hb => ?_, fun t => (st2.ext.tb t).put (.dct k4)⟩, ?_, st2.rl.putO o3 ⟨es', upd_same, p1, hde⟩⟩
                · rw [upd_ne (ne_of_none hb k2)]; exact st2.ext.fh b o hb
                · rw [upd_ne (ne_of_none hb k3)]; exact st2.ext.st b o n hb w
                · by_cases q : b = a
                  · rw [q, upd_same]; simp
                  · rw [upd_ne q]; exact st2.ext.dom b hb
                · exact st2.sr.put (fun z => hp a z.symm k3) (.dct k4)
            cases hf : flat d with
            | true =>
              rw [hf, if_pos rfl] at q1
              exact step F1' ρ st1' e1' (flat_dd hv hf) hj (PostS.base q1 e1')
            | false =>
              rw [hf, if_neg Bool.false_ne_true] at q1
              exact step F1 (fz mv ρ) st1 e1 hv ((fz_other hm.1).trans hj) (PostS.base q1 e1)
/-! ### d.get(k) -/
def dgetD (x y : D) : Option D := match x with
  | .dict kvs => if keyT true y && dTup kvs then some ((dget kvs y).getD .none) else none
  | _ => none
def isDct : D → Bool
  | .dict kvs => dTup kvs
  | _ => false
/-- the dict, then the key -/
def eGet (fd fk : EM) : EM := fun ρ s => (fd ρ s).bind fun x => if isDct x.1 then (fk ρ x.2).bind fun y => ofO (dgetD x.1 y.1) y.2 else .un
def tBME (t : TE) (ty : TE) (r : V → V → Hp → VK → Prop) : TE := fun σ H Q => t σ H fun x H1 => (∃ a es, x = .ref a ∧ H1 a = some (dO a es)) ∧ ty σ H1 fun y H2 => r x y H2 Q
def rDGet (G : GC) : V → V → Hp → VK → Prop := fun x y H Q => ∃ F k kvs, Ex F H ∧ DD G F y k ∧ DD G F x (.dict kvs) ∧ keyT true k = true ∧ dTup kvs = true ∧ ∀ v, DD G F v ((dget kvs k).getD .none) → Q v H
theorem pe_dgetE {o e : Expr} {apos cpos : Pos} {td ty : TE} (hu : X.A.units + 64 < cLine) (ho : PE X o td) (he : PE X e ty)
    (hbase : attributeBase o "get" X.env (eval o X.env) = eval o X.env := by rfl)
    (hfew : ((backTo cpos (starEach (e :: []) X.env)).all (fun x => !x.1) && (backToKw cpos (keywordEach [] X.env)).all (fun x => x.1.isSome)
      && decide ((e :: ([] : List Expr)).length + ([] : List Keyword).length + (if ([] : List Keyword).isEmpty then 0 else 1) < 30)) = true := by rfl)
    (hline : (apos.endLine == cpos.line) = true := by rfl) (hs : starEach (e :: []) X.env = (false, eval e X.env) :: starEach [] X.env := by rfl) :
    PE X (.Call (.Attribute o "get" apos) (e :: []) [] cpos) (tBME td ty (rDGet X.gc)) := by
  refine ⟨fun pins s σ H Q I h => ?_⟩
  refine wpAny_Call_method_late hbase hfew hline rfl (thn (ho.run pins s σ H _ I h) fun v s1 ⟨x, H1, I1, r1, ⟨a, es, ex, ha⟩, q1⟩ => ?_)
  subst ex
  obtain rfl : v = Value.ref a := r1
  obtain ⟨⟨z, ob, ep, h1, h2, h3⟩, _⟩ := (show ObjOk X.prog X.w H1 s1.heap a (dO a es) from I1.hok a _ ha)
  refine ⟨"dict", "dict.get", PySem.F.plainAttrs_dict, PySem.F.slot_dict_get, PySem.F.type_dict_get, ⟨ob, h1, h2.1⟩, fun b e' => ?_, ?_⟩
  · cases e'
    exact ⟨ob, h1, h2.2.1⟩
  rw [hs]
  refine Calls.callWith_builtin rfl (Calls.evalArgs_plain (Calls.spliced_cons (thn (he.run pins s1 σ H1 _ I1 q1) fun iv s2 ⟨y, H2, I2, ry, F, k, kvs, e, hy, hx, hk, ht, q2⟩ => Calls.spliced_nil ?_)))
  obtain ⟨a', es', e', g1, g2, g3⟩ := dct_inv hx ht
  cases e'
  obtain ⟨b, rfl⟩ := key_ref hy hk
  obtain rfl : iv = Value.ref b := ry
  obtain ⟨xs, hr, he⟩ := xr_of g3 ht
  obtain ⟨d1, d2⟩ := dict_at I2 e (e _ _ g1) g2 ht hr he
  refine call_meetsIn PySem.F.slot_dict_get d2.typeIs PySem.F.entry_dict_get (PySem.F.args_dict_get_2 _ _) (meetsH_dict_get (nestedKind X.prog X.w) a b d1) ⟨room_n hu, toKey k, xs, key_at I2 e hy hk, d2, ?_⟩
  rcases xr_get k hr with ⟨e1, e2⟩ | ⟨dd, pp, vv, e1, e2, e3, e4⟩
  · rw [e2]
    exact ⟨.non, H2, I2.tok _, rfl, q2 .non (by rw [e1]; exact .non)⟩
  · rw [e2]
    exact ⟨vv, H2, I2.tok _, e3, q2 vv (by rw [e1]; exact e4)⟩
theorem pd_get {o e : Expr} {apos cpos : Pos} {fd fk : EM} (hu : X.A.units + 64 < cLine) (ho : PED X p E o fd) (he : PED X p E e fk)
    (hbase : attributeBase o "get" X.env (eval o X.env) = eval o X.env := by rfl)
    (hfew : ((backTo cpos (starEach (e :: []) X.env)).all (fun x => !x.1) && (backToKw cpos (keywordEach [] X.env)).all (fun x => x.1.isSome)
      && decide ((e :: ([] : List Expr)).length + ([] : List Keyword).length + (if ([] : List Keyword).isEmpty then 0 else 1) < 30)) = true := by rfl)
    (hline : (apos.endLine == cpos.line) = true := by rfl) (hs : starEach (e :: []) X.env = (false, eval e X.env) :: starEach [] X.env := by rfl) :
    PED X p E (.Call (.Attribute o "get" apos) (e :: []) [] cpos) (eGet fd fk) :=
  pe_imp (pe_dgetE hu ho he hbase hfew hline hs) fun σ H Q ⟨F, ρ, s, pre, post⟩ => ⟨F, ρ, s, pre, Post.bind post fun d1 s1 F1 x H1 e1 x1 r1 q1 post1 => by
    cases hd : isDct d1 with
    | false => simp only [hd] at post1; exact post1.elim
    | true =>
      simp only [hd, if_true] at post1
      cases d1 with
      | dict kvs =>
        obtain ⟨a, es, rfl, g1, g2, g3⟩ := dct_inv q1 hd
        refine ⟨⟨a, es, rfl, x1.fh _ _ g1⟩, F1, ρ, s1, pre.next x1 r1, Post.bind post1 fun d2 s2 F2 y H2 e2 x2 r2 q2 post2 => ?_⟩
        obtain ⟨z, ez, post3⟩ := ofO_post post2
        obtain ⟨hs, rfl⟩ := ifSome (show (if (keyT true d2 && dTup kvs) = true then some ((dget kvs d2).getD .none) else none) = some z from ez)
        obtain ⟨z1, z2⟩ := band hs
        exact ⟨F2, d2, kvs, x2.fh, q2, q1.ex x2.ff, z1, z2, fun v hv => Post.okI post3 x2.fh r2 hv⟩
      | _ => cases hd⟩
end
end DL
end

section
set_option Elab.async false
set_option linter.all false
set_option maxRecDepth 100000
set_option maxHeartbeats 4000000
/-! The data layer, part 14: a name that gets a comprehension; functions that write a list they are handed. -/
namespace DL
open PySem PySem.Spec PyProof.Rows L2
section
variable {X : Cx} {p : Option PQ} {E : XK} {F0 H0 F H : Hp} {σ : L2.St} {ρ : List L} {s : List D} {tg : Expr}
/-- name = [.. for ..] -/
theorem psd_setLc {i : Nat} {y : Str} {py : Pos} {elt iter : Expr} {ifs : List Expr} {scope : Scope} {own : List (Str × Nat)} {pos spos : Pos} {f : WM} {t : RtM} {c : TM} {e : EM} {ms : List Nat} (hp : ∀ a, p = some (.sp a) → H0 a ≠ none) (hc : X.calm = true) (hN : X.N.Nodup) (hy : X.N[i]? = some y) (hyl : X.env.scope.names.lookup y = some .local)
    (hk : X.env.scope.kind = .function) (hl : (py.line == pos.line) = true) (ha : (scope.names.any fun (n, k) => n == y && (k == .local || k == .cell)) = false)
    (hi : PID X p E tg iter f) (ok : BlkOk X.N X.env.scope scope own)
    (hg : ∀ (s : Shared) (H : Hp) (C : Addr) (cl : List (Str × Addr)) (fp : List Addr), PG (X.blk s H scope (compEnvC scope cl C X.env) fp) tg (tgR X.gc (own.map (·.2)) t)) (ht : ∀ (s : Shared) (H : Hp) (C : Addr) (cl : List (Str × Addr)) (fp : List Addr), PTs (X.blk s H scope (compEnvC scope cl C X.env) fp) ifs (tDB X.gc p E0 c))
    (he : ∀ (s : Shared) (H : Hp) (C : Addr) (cl : List (Str × Addr)) (fp : List Addr), PE (X.blk s H scope (compEnvC scope cl C X.env) fp) elt (tD X.gc p E0 e)) (hs : ∀ x, foldedSetIterable iter X.env x = pure x := by intro _; rfl) :
    PSD X p E F0 H0 (.Assign [.Name y py] (.ListComp elt [⟨tg, iter, ifs, 0⟩] scope pos) spos) (gAsg ms (eLc f (own.map (·.2)) t c e) (tgN i)) :=
  ps_imp (ps_setLc hc hN hy hyl (sw_true hk hyl hl ha) hi ok hg ht he hs) fun D σ H ⟨F, ρ, s, st, q⟩ => tLc_of (expr_run hp st q fun d s' F2 v H2 st2 e2 ⟨F', st', e'⟩ hv q2 => by
    cases hf : flat d with
    | true =>
      rw [hf, if_pos rfl] at q2
      exact q2 F' _ H2 e' ⟨st'.ext, st'.sr, st'.rl.setD i (flat_dd hv hf)⟩
    | false =>
      rw [hf, if_neg Bool.false_ne_true] at q2
      exact q2 F2 _ H2 e2 ⟨st2.ext, st2.sr, st2.rl.setD i hv⟩)
end
/-! ### the list at a that is written -/
def isSp (a : Addr) : D → Bool
  | .dict [(.none, .int b), (.none, .none)] => decide (b = (a : Nat))
  | _ => false
theorem isSp_opq {G : GC} {F : Hp} {a : Addr} {v : V} {d : D} (h : DD G F v d) (q : isSp a d = true) : v = .ref a ∧ d = opq a := by
  unfold isSp at q
  split at q
  · rename_i b
    have e : b = ((a : Nat) : Int) := of_decide_eq_true q
    subst e
    cases h with
    | dct h1 h2 h3 => simp [dictOk, keyT, isTup, toKey] at h2
    | opq x => exact ⟨rfl, rfl⟩
  · cases q
theorem isSp_self (a : Addr) : isSp a (opq a) = true := by simp [isSp, opq]
/-- spool[i] -/
def eSpGet (a : Addr) (j i : Nat) : EM := fun ρ s => match ρ[j]? with
  | some (some d) => if isSp a d then ofO s[i]? s else .un
  | _ => .un
section
variable {X : Cx} {E : XK} {F0 H0 F H : Hp} {σ : L2.St} {ρ : List L} {s : List D} {a : Addr} {pos : Pos}
theorem pd_spGet {j i : Nat} {jj : Nat} {x : Expr} {p2 : Pos} (hx : PE X x (tVar j)) (hs : PlainIx (.Constant (.int (i : Nat)) jj p2) := by exact fun _ _ => rfl) : PED X (some (.sp a)) E (.Subscript x (.Constant (.int (i : Nat)) jj p2) pos) (eSpGet a j i) :=
  pe_imp (pe_ix ix_seq hx pe_int hs) fun σ H Q ⟨F, ρ, s, pre, post⟩ => by
    unfold eSpGet at post
    cases q : ρ[j]? with
    | none => rw [q] at post; exact post.elim
    | some o =>
      cases o with
      | none => rw [q] at post; exact post.elim
      | some d =>
        rw [q] at post
        cases hq : isSp a d with
        | false => simp only [hq] at post; exact post.elim
        | true =>
          simp only [hq, if_true] at post
          obtain ⟨v, h1, h2⟩ := pre.rd j d q
          obtain ⟨rfl, rfl⟩ := isSp_opq h2 hq
          obtain ⟨z, ez, post2⟩ := ofO_post post
          obtain ⟨gt, g1, vs, g2, g3⟩ := pre.sr
          obtain ⟨w, g4, g5⟩ := g3.get ez
          refine ⟨_, h1, .inl ⟨a, vs, _, w, rfl, rfl, SqL.of g2, atI_nat g4, ?_⟩⟩
          exact Post.okI post2 pre.ex pre.sr (g5.ex fun b o hb => nomatch hb)
/-- spool[i] = e -/
def gSpSet (a : Addr) (ms : List Nat) (j i : Nat) (f : EM) : SM := fun ρ s => match ρ[j]? with
  | some (.d x) => if isSp a x then exprS (f (vw (fz ms ρ)) s) fun d s' => if flat d && decide (i < s'.length) then .nx ρ (s'.set i d) else .un else .un
  | _ => .un
theorem ixN_nat' {n i : Nat} (h : i < n) : ixN n (i : Nat) = some i := by
  unfold ixN
  rw [if_pos (Int.natCast_nonneg i), if_pos (by omega), Int.toNat_natCast]
theorem psd_spSet {x e : Expr} {f : EM} {ms : List Nat} {j i : Nat} {jj : Nat} {p2 p3 : Pos} (hp : ∀ b, some (PQ.sp a) = some (.sp b) → H0 b ≠ none) (hx : PE X x (tVar j)) (h : PED X (some (.sp a)) E e f)
    (hs : swapsWithSole [.Subscript x (.Constant (.int (i : Nat)) jj p2) p3] e pos.line X.env = pure false := by rfl) (hw : swappedStores [.Subscript x (.Constant (.int (i : Nat)) jj p2) p3] e X.env = pure none := by rfl)
    (h1 : (assignEach [.Subscript x (.Constant (.int (i : Nat)) jj p2) p3] X.env).map (·.2) = [assign (.Subscript x (.Constant (.int (i : Nat)) jj p2) p3) X.env] := by rfl)
    (ha : ∀ v, assign (.Subscript x (.Constant (.int (i : Nat)) jj p2) p3) X.env v = (do
      let ov ← holding [v] (eval x X.env)
      let iv ← holding [v, ov] (eval (.Constant (.int (i : Nat)) jj p2) X.env)
      standAt p3
      holding [v, ov, iv] (setItem ov iv v)
      release [v, ov, iv] []) := by intro _; rfl) :
    PSD X (some (.sp a)) E F0 H0 (.Assign [.Subscript x (.Constant (.int (i : Nat)) jj p2) p3] e pos) (gSpSet a ms j i f) :=
  ps_imp (ps_asg h (pg_sub hx pe_int set_list ha) hs hw h1) fun D σ H ⟨F, ρ, s, st, q⟩ => by
    unfold gSpSet at q
    cases hj : ρ[j]? with
    | none => rw [hj] at q; exact q.elim
    | some l =>
      rw [hj] at q
      cases l with
      | un => exact q.elim
      | own _ => exact q.elim
      | d y =>
        cases hq : isSp a y with
        | false => simp only [hq] at q; exact q.elim
        | true =>
          simp only [hq, if_true] at q
          obtain ⟨u, g1, g2⟩ := st.rl.at_ j _ hj
          obtain ⟨rfl, rfl⟩ := isSp_opq g2 hq
          refine expr_run hp st q fun d s' F2 v H2 st2 e2 ⟨F', st', e'⟩ hv q2 => ?_
          cases hz : (flat d && decide (i < s'.length)) with
          | false => simp only [hz] at q2; exact q2.elim
          | true =>
            simp only [hz, if_true] at q2
            obtain ⟨hf, hl⟩ := band hz
            have hl := of_decide_eq_true hl
            obtain ⟨kt, k1, vs, k2, k3⟩ := st'.sr
            refine ⟨_, g1, a, vs, _, i, rfl, rfl, k2, ixN_nat' (by rw [k3.len]; exact hl), ?_⟩
            refine q2 F' _ _ e' ⟨⟨st'.ext.ff, fun b o hb => ?_, st'.ext.own, fun b o n hb w => ?_, fun b hb => ?_, fun t => (st'.ext.tb t).put (.lst k2)⟩, ⟨⟨kt.1.put (.lst k2), kt.2⟩, k1, _, upd_same, k3.set i (flat_dd hv hf)⟩, st'.rl.mono (Ex.refl F') fun k b hb => ?_⟩
            · rw [upd_ne (ne_of_none hb k1)]; exact st'.ext.fh b o hb
            · rw [upd_ne (fun z => n (by rw [z]))]; exact st'.ext.st b o n hb w
            · by_cases z : b = a
              · rw [z, upd_same]; simp
              · rw [upd_ne z]; exact st'.ext.dom b hb
            · obtain ⟨c, _, _, c2, c3, c4⟩ := st'.rl.owned hb
              refine ⟨c2, fun o ho _ => ?_⟩
              rw [upd_ne (fun z => hp a rfl (by rw [← z]; exact c3))]; exact ho
/-! ### defs that write the list they are handed first -/
abbrev MS := Addr → List D → List D → R (D × List D)
def spS (G : GC) (n : Nat) (m : MS) : Sp := fun vs H Q E => ∃ a F s ds, Ex F H ∧ SRel G (some (.sp a)) F H s ∧ vs.length = n ∧ DDs G F vs (opq a :: ds) ∧ Post G (some (.sp a)) E F H (m a (opq a :: ds) s) (fun F' _ v d => DD G F' v d) Q
structure FnS (G : GC) (k : Nat) (x : Str) (n : Nat) (m : MS) : Prop where
  ex : ∃ fd ps, FnOk G.P G.w G.K G.mg G.base (L2N.CX G.P G.w) k (He.ga G.K x) fd ps (spS G n m) ∧ Binds G.K fd ps []
  gl : G.mg x = some (.ref (He.ga G.K x))
  kp : PySem.W.keepIn G.K (.ref (He.ga G.K x)) = true
def runS (g : Addr → SM) (n : Nat) : MS := fun a ds s => match g a (ds.map L.d ++ List.replicate (n - ds.length) L.un) s with
  | .nx _ s => .ok (.none, s)
  | .rt d s => .ok (d, s)
  | .ex e => .ex e
  | _ => .un
theorem def_okS {G : GC} {x : Str} {st : Stmt} {N ps : List Str} {k n : Nat} {g : Addr → SM} (FD0 : DefF G x st) (S : FnScope N ps (defScope st)) (hn : ps.length = n)
    (hb : ∀ (kV doc pm : Value) (an : Option Addr) (cdv ct : Value) (us : List Value), us.length = ps.length → bindArgs (PySem.W.fnOf x x (defArgs st) (defBody st) (defScope st) .none kV doc pm an cdv ct) ⟨us, []⟩ = pure (ps.zip us))
    (der : ∀ (cdv : Value) (A : Around) (outer : List PySem.Env) (s : Shared) (H F0 : Hp) (E : XK) (a : Addr), (∀ b, some (PQ.sp a) = some (.sp b) → H b ≠ none) → cdv = .ref (He.codeOf G.K (x, none)) → Room k (A.deeper (envOfC x (defScope st) s.heap.objs.size (He.ga G.K x) cdv)) →
      Passes (L2N.CX G.P G.w) (cxOf (L2N.CX G.P G.w) G.P G.w G.K G.mg G.base N x (defScope st) (He.ga G.K x) cdv A outer s H E) E →
      PassesOwn (model G.P G.w) (A.deeper (envOfC x (defScope st) s.heap.objs.size (He.ga G.K x) cdv)) (envOfC x (defScope st) s.heap.objs.size (He.ga G.K x) cdv) (cxOf (L2N.CX G.P G.w) G.P G.w G.K G.mg G.base N x (defScope st) (He.ga G.K x) cdv A outer s H E).xe →
      PSsD (cxOf (L2N.CX G.P G.w) G.P G.w G.K G.mg G.base N x (defScope st) (He.ga G.K x) cdv A outer s H E) (some (.sp a)) E F0 H (defBody st) (g a)) :
    FnS G (k + 1) x n (runS g N.length) := by
  obtain ⟨fd, FD⟩ := FD0.ex
  refine ⟨⟨fd, ps, funD_okC FD S (fun vs H Q E h => ?_) (fun cdv A outer s H vs Q E ecd hr h => ?_), FD.bindsN hb⟩, FD0.gl, FD.kp⟩
  · obtain ⟨a, F0, s, ds, h1, h0, h2, h3, h4⟩ := h
    rw [h2, hn]
  · obtain ⟨a, F0, s0, ds, h1, h0, h2, h3, h4⟩ := h
    have hp : ∀ b, some (PQ.sp a) = some (.sp b) → H b ≠ none := fun b e => by
      cases e
      obtain ⟨_, _, us, h, _⟩ := h0
      rw [h]; simp
    refine ⟨_, der cdv A outer s H F0 E a hp ecd hr (L2N.passes_call (L2N.takes_of (E := E) rfl rfl rfl rfl) fun _ _ _ _ h => h) (passes_of rfl), F0, (opq a :: ds).map L.d ++ List.replicate (N.length - (opq a :: ds).length) L.un, s0, ⟨Ext.refl h1, h0, startL h3 N⟩, ?_⟩
    unfold runS at h4
    show PostS _ (some (.sp a)) E F0 H F0 (g a ((opq a :: ds).map L.d ++ List.replicate (N.length - (opq a :: ds).length) L.un) s0) _
    cases hg : g a ((opq a :: ds).map L.d ++ List.replicate (N.length - (opq a :: ds).length) L.un) s0 with
    | nx ρ s' => rw [hg] at h4; exact fun F σ H' _ st => h4 F .non H' st.ext st.sr .non
    | rt d s' => rw [hg] at h4; exact fun F v H' x hr hv => h4 F v H' x hr hv
    | bk ρ s' => rw [hg] at h4; exact h4.elim
    | ct ρ s' => rw [hg] at h4; exact h4.elim
    | ex e => rw [hg] at h4; exact fun F H' _ x => h4 F H' x
    | un => rw [hg] at h4; exact h4.elim
/-- a call of such a def -/
def eCallS (a : Addr) (m : MS) (h : AM) : EM := fun ρ s => (h ρ s).bind fun z => match z.1 with
  | d :: ds => if isSp a d then m a (d :: ds) z.2 else .un
  | [] => .un
theorem tCallS_of {m : MS} {n : Nat} {G : GC} {h : AM} {Q : VK} (hn : ∀ ρ s ds s', h ρ s = .ok (ds, s') → ds.length = n) (q : tD G (some (.sp a)) E (eCallS a m h) σ H Q) : tCall (spS G n m) [] E (tDA G (some (.sp a)) E h) σ H Q := by
  obtain ⟨F, ρ, s, pre, post⟩ := q
  refine ⟨F, ρ, s, pre, Post.bind post fun d1 s1 F1 xs H1 e1 x1 r1 q1 post1 => ?_⟩
  have hl := hn _ _ _ _ e1
  cases d1 with
  | nil => exact post1.elim
  | cons d ds =>
    cases hq : isSp a d with
    | false => simp only [hq] at post1; exact post1.elim
    | true =>
      simp only [hq, if_true] at post1
      cases q1 with
      | cons h1 h2 =>
        obtain ⟨rfl, rfl⟩ := isSp_opq h1 hq
        refine ⟨a, F1, s1, ds, x1.fh, r1, ?_, ?_, post1⟩
        · rw [List.append_nil, List.length_cons, h2.len]
          exact hl
        · rw [List.append_nil]
          exact .cons h1 h2
theorem pd_callS {x : Str} {q : Pos} {e : Expr} {es : List Expr} {j k n : Nat} {m : MS} {h : AM} (Fn : FnS X.gc k x n m) (hr : Room j X.A) (hk : k ≤ j) (hx : Passes (L2N.CX X.prog X.w) X E) (h1 : PAD X (some (.sp a)) E (e :: es) h) (hl : ∀ ρ s ds s', h ρ s = .ok (ds, s') → ds.length = n)
    (hg : Gl X x := by rfl) (hdb : (x == ("__debug__" : Str)) = false := by decide) (he : starEach (e :: es) X.env = (false, eval e X.env) :: starEach es X.env := by rfl) (hpl : (backTo pos (starEach es X.env)).any (·.1) = false := by rfl) : PED X (some (.sp a)) E (.Call (.Name x q) (e :: es) [] pos) (eCallS a m h) := by
  obtain ⟨fd, ps, FO, hb⟩ := Fn.ex
  exact pe_imp (pe_call FO (hr.mono hk) hg Fn.gl Fn.kp hb .nil hx h1 hdb he hpl) fun _ _ _ q => tCallS_of hl q
end
end DL
end

section
set_option Elab.async false
set_option linter.all false
set_option maxRecDepth 100000
set_option maxHeartbeats 4000000
/-! The data layer, part 15: small sets of tuples of ints and texts. -/
namespace DL
open PySem PySem.Spec PyProof.Rows L2
section
variable {P : Program} {w : World} {A : Around} {E : Value → Shared → Prop} {s : Shared}
abbrev mh (P : Program) (w : World) (k : List Key) : Int := tupleKeyHash (mixKind P w) k
abbrev IsM (P : Program) (w : World) (h : Heap) (k : List Key) (a : Addr) : Prop := IsTupleKey (mixKind P w) h k a
/-- an int or a text -/
def Lf (v : Value) : Prop := (∃ i t, v = .int i t) ∨ ∃ x t, v = .str x t
theorem items_lf {k : List Key} {vs : List Value} (h : ItemsAre (mixKind P w) k vs) : ∀ v ∈ vs, Lf v := by
  induction h with
  | nil => exact fun v hv => nomatch hv
  | cons h1 _ ih =>
    intro u hu
    rcases List.mem_cons.mp hu with rfl | hu
    · rcases keyIs_shape h1 with ⟨i, t, _, e⟩ | ⟨x, t, _, e⟩
      · exact .inl ⟨i, t, e⟩
      · exact .inr ⟨x, t, e⟩
    · exact ih u hu
theorem lf_ofA {v : Value} (h : Lf v) (n : Nat) : ofAClassStatement n v = pure false := by
  rcases h with ⟨i, t, rfl⟩ | ⟨x, t, rfl⟩ <;> cases n <;> rfl
theorem lf_hash {v : Value} (h : Lf v) (n : Nat) : ∃ b, hashByValue n v = pure b := by
  rcases h with ⟨i, t, rfl⟩ | ⟨x, t, rfl⟩
  · exact ⟨true, by cases n <;> rfl⟩
  · exact ⟨false, by cases n <;> rfl⟩
theorem ofA_m {k : List Key} {b : Addr} {Q : Bool → Shared → Prop} (hk : IsM P w s.heap k b) (h : Q false s) : wpAny (model P w) A (ofAClassStatement 8 (.ref b)) Q E s := by
  obtain ⟨o, items, n, ho, hc, hd, hi⟩ := id hk
  unfold ofAClassStatement
  refine wpAny_bind (wpAny_typeOf hk.typeIs ?_)
  dsimp only
  have e : (("tuple" : String) == "tuple") = true := by decide
  simp only [e, if_true, Bool.not_true, Bool.false_eq_true, if_false]
  try refine wpAny_bind (wpAny_pure ?_)
  try simp only [Bool.not_true, Bool.false_eq_true, if_false]
  show wpAny _ _ (seqItems? (.ref b) >>= _) _ _ s
  refine wpAny_bind (wpAny_seqItems ho hd ?_)
  dsimp only
  refine wpAny_bind (show wpAny _ _ (forIn items _ _) _ _ s from ?_)
  rw [← Array.forIn_toList]
  refine wpAny_forIn_list _ (fun rest r s' => r.1 = none ∧ s' = s ∧ ∀ v ∈ rest, Lf v) _ (fun v rest r s' z => ?_) (fun r s' z => ?_) _ _ ⟨rfl, rfl, items_lf hi⟩
  · obtain ⟨z1, z2, z3⟩ := z
    rw [lf_ofA (z3 v List.mem_cons_self)]
    refine wpAny_bind (wpAny_pure ?_)
    simp only [Bool.false_eq_true, if_false]
    exact wpAny_pure ⟨rfl, z2, fun u hu => z3 u (List.mem_cons_of_mem _ hu)⟩
  · obtain ⟨z1, rfl, _⟩ := z
    obtain ⟨r1, r2⟩ := r
    have z1' : r1 = none := z1
    subst z1'
    exact wpAny_pure h
theorem hash_m {k : List Key} {b : Addr} {Q : Bool → Shared → Prop} (hk : IsM P w s.heap k b) (h : ∀ c, Q c s) : wpAny (model P w) A (hashByValue 8 (.ref b)) Q E s := by
  obtain ⟨o, items, n, ho, hc, hd, hi⟩ := id hk
  unfold hashByValue
  refine wpAny_bind (wpAny_specialOf hk.typeIs F.slot_tuple_hash.lookup ?_)
  show wpAny _ _ (seqItems? (.ref b) >>= _) _ _ s
  refine wpAny_bind (wpAny_seqItems ho hd (wpAny_bind (show wpAny _ _ (forIn items _ _) _ _ s from ?_)))
  rw [← Array.forIn_toList]
  refine wpAny_mono (Q := fun (r : Option Bool × PUnit) s' => s' = s) ?_ (fun r s' e => ?_) fun _ _ z => z
  rotate_left
  · obtain ⟨r1, r2⟩ := r
    subst e
    cases r1 with
    | none => exact wpAny_pure (h true)
    | some c => exact wpAny_pure (h c)
  refine wpAny_forIn_list _ (fun rest r s' => s' = s ∧ ∀ v ∈ rest, Lf v) _ (fun v rest r s' z => ?_) (fun r s' z => z.1) _ _ ⟨rfl, items_lf hi⟩
  obtain ⟨z2, z3⟩ := z
  obtain ⟨c, e⟩ := lf_hash (z3 v List.mem_cons_self) 7
  rw [e]
  refine wpAny_bind (wpAny_pure ?_)
  cases c with
  | true =>
    simp only [Bool.not_true, Bool.false_eq_true, if_false]
    exact wpAny_pure ⟨z2, fun u hu => z3 u (List.mem_cons_of_mem _ hu)⟩
  | false =>
    simp only [Bool.not_false, if_true]
    exact wpAny_pure z2
theorem seen_m {k : List Key} {b : Addr} {Q : Bool → Shared → Prop} (hk : IsM P w s.heap k b) {ys : List Value} (hy : ∀ y ∈ ys, ∃ k' c, y = Value.ref c ∧ IsM P w s.heap k' c) (h : Q false s) :
    wpAny (model P w) A (searchCouldBeSeen (.ref b) ys) Q E s := by
  unfold searchCouldBeSeen
  refine wpAny_bind (wpAny_forIn_list _ (fun rest r s' => r.1 = none ∧ s' = s ∧ ∀ y ∈ rest, ∃ k' c, y = Value.ref c ∧ IsM P w s.heap k' c) _ (fun v rest r s' z => ?_) (fun r s' z => ?_) _ _ ⟨rfl, rfl, hy⟩)
  · obtain ⟨z1, rfl, z3⟩ := z
    obtain ⟨k', c, rfl, hc⟩ := z3 v List.mem_cons_self
    have more : ∀ y ∈ rest, ∃ k' c, y = Value.ref c ∧ IsM P w s'.heap k' c := fun u hu => z3 u (List.mem_cons_of_mem _ hu)
    dsimp only
    by_cases hv : (b == c || (carriedByValue (.ref b) && carriedByValue (.ref c))) = true
    · exact wp_if_pos hv (wpAny_pure ⟨rfl, rfl, more⟩)
    · refine wp_if_neg hv (wpAny_bind (wpAny_eqIsQuiet_tuple hk ?_))
      simp only [Bool.not_true, Bool.false_eq_true, if_false]
      refine wpAny_bind (wpAny_eqIsQuiet_tuple hc ?_)
      simp only [Bool.not_true, Bool.false_eq_true, if_false]
      refine wpAny_bind (ofA_m hk ?_)
      simp only [Bool.false_eq_true, if_false]
      refine wpAny_bind (ofA_m hc ?_)
      simp only [Bool.false_eq_true, if_false]
      exact wpAny_pure ⟨rfl, rfl, more⟩
  · obtain ⟨z1, rfl, _⟩ := z
    obtain ⟨r1, r2⟩ := r
    have z1' : r1 = none := z1
    subst z1'
    exact wpAny_pure h
/-! ### the set at a: three elements at most -/
structure SetM (P : Program) (w : World) (h : Heap) (a : Addr) (L : List (Addr × List Key)) (es : Array (Int × Value)) (ep : Nat) (t : SetTable) : Prop where
  ob : ∃ o, h.get? a = some o ∧ o.ExactSet ∧ o.data = .set es ep t
  rows : es.toList = L.map fun q => (mh P w q.2, Value.ref q.1)
  tab : TabOk t (L.map fun q => mh P w q.2)
  nd : (L.map (·.2)).Nodup
  tup : ∀ q ∈ L, IsM P w h q.2 q.1
  led : w.params.followText "set-order" = true ∨ t.led = true
  mask : t.mask = 7
  few : L.length ≤ 3
variable {a : Addr} {L : List (Addr × List Key)} {es : Array (Int × Value)} {ep : Nat} {t : SetTable}
theorem SetM.size (R : SetM P w s.heap a L es ep t) : es.size = L.length := by
  have h := congrArg List.length R.rows
  simpa using h
theorem SetM.psize (R : SetM P w s.heap a L es ep t) : t.place.size = L.length := by
  have h := R.tab.sz
  simpa using h
theorem SetM.fits (R : SetM P w s.heap a L es ep t) : t.fits es.size = true := by
  have h1 := R.psize
  have h2 := R.size
  have h3 := R.few
  unfold SetTable.fits SetTable.fill
  rw [R.tab.dm, R.mask, Bool.and_eq_true, beq_iff_eq, decide_eq_true_eq]
  refine ⟨by omega, ?_⟩
  show t.place.size + 0 ≤ 7
  omega
theorem SetM.entry (R : SetM P w s.heap a L es ep t) {i : Nat} {q : Addr × List Key} (h : L[i]? = some q) : es[i]? = some (mh P w q.2, Value.ref q.1) := by
  rw [← Array.getElem?_toList, R.rows, List.getElem?_map, h]
  rfl
theorem SetM.gave (R : SetM P w s.heap a L es ep t) : t.gaveWay = false := by
  unfold SetTable.gaveWay
  rw [R.mask]
  decide
/-- the c-th step of h's way -/
abbrev stp (t : SetTable) (h : Int) (c : Nat) : SetTable.Probe := nth t.mask (runAt t.mask (SetTable.bits h % (t.mask + 1)) (SetTable.bits h)) c
theorem stp_dummy (t : SetTable) (h : Int) (c : Nat) : (stp t h c).dummy = none := by
  have gen : ∀ (n : Nat) (q : SetTable.Probe), q.dummy = none → (nth t.mask q n).dummy = none := fun n => by
    induction n with
    | zero => exact fun q z => z
    | succ n ih =>
      intro q z
      refine ih (adv t.mask q) ?_
      unfold adv
      split <;> exact z
  exact gen c _ rfl
theorem stp_nth (t : SetTable) (h : Int) (c q : Nat) : nth t.mask (stp t h c) q = stp t h (c + q) := (nth_add t.mask c _ q).symm
theorem find_m (R : SetM P w s.heap a L es ep t) {x : Addr} {k : List Key} (hx : IsM P w s.heap k x) (hu : A.units < cLine) {K : Nat} (hKf : K < 10 * SetTable.turns t.mask)
    (hK : way t.mask (mh P w k) K ∉ t.place.toList) (hKb : ∀ c, c < K → way t.mask (mh P w k) c ∈ t.place.toList) {Q : SetFound → Shared → Prop}
    (hin : k ∈ L.map (·.2) → Q (.there none) s) (hout : k ∉ L.map (·.2) → Q (.free (way t.mask (mh P w k) K) false) s) :
    ∀ (f c : Nat) (stand : Option SetTable.Probe), stand.getD (t.probeStart (mh P w k)) = stp t (mh P w k) c → c ≤ K → K - c < f →
      (∀ (i : Nat) q, L[i]? = some q → q.2 = k → ∃ c', c ≤ c' ∧ c' < K ∧ t.place.toList[i]? = some (way t.mask (mh P w k) c')) →
      wpAny (model P w) A (setSearchFrom a (.ref x) (mh P w k) true f stand) Q E s := by
  intro f
  induction f with
  | zero => exact fun c stand _ _ hf _ => absurd hf (Nat.not_lt_zero _)
  | succ f ih =>
    intro c stand hst hc hf hre
    obtain ⟨o, ho, hex, hd⟩ := R.ob
    have jq : ∀ q, (nth t.mask (stp t (mh P w k) c) q).j = way t.mask (mh P w k) (c + q) := fun q => by rw [stp_nth]
    have hh : ∀ (i : Nat) q, L[i]? = some q → (fun i => (es[i]?.map (·.1)).getD 0) i = mh P w q.2 := fun i q hq => by
      show (es[i]?.map (·.1)).getD 0 = _
      rw [R.entry hq]
      rfl
    rw [setSearchFrom_succ]
    refine wpAny_bind (wpAny_setState_of ho hd R.fits ?_)
    dsimp only
    refine wp_if_neg (by rw [R.gave]; exact Bool.false_ne_true) ?_
    try refine wpAny_bind (wpAny_pure ?_)
    have cut := go_spec t R.tab.ris R.tab.dm (fun i => (es[i]?.map (·.1)).getD 0) (mh P w k) (10 * SetTable.turns t.mask) (K - c) _ (stp_dummy t (mh P w k) c) (Nat.lt_of_le_of_lt (Nat.sub_le _ _) hKf)
      (fun q hq => by rw [jq]; exact hKb _ (by omega)) (by rw [jq, Nat.add_sub_cancel' hc]; exact hK)
    rcases cut with ⟨q, i, hq, hi, hhi, hno, hpr⟩ | ⟨hno, hpr⟩
    · rw [stp_nth] at hpr
      have e1 : (stp t (mh P w k) (c + q)).j = way t.mask (mh P w k) (c + q) := rfl
      rw [jq] at hi
      rw [stp_nth, e1] at hpr
      have pr2 : t.probe (fun i => (es[i]?.map (·.1)).getD 0) (mh P w k) (stand.getD (t.probeStart (mh P w k))) = some (.candidate (way t.mask (mh P w k) (c + q)) i (stp t (mh P w k) (c + (q + 1)))) := by
        rw [hst]; exact hpr
      rw [pr2]
      dsimp only
      have hil : i < L.length := by
        rw [← R.psize, ← Array.length_toList]
        exact (List.getElem?_eq_some_iff.mp hi).1
      obtain ⟨y, hy⟩ : ∃ y, L[i]? = some y := ⟨_, List.getElem?_eq_getElem hil⟩
      have ym : y ∈ L := List.mem_of_getElem? hy
      have sl : t.slot (way t.mask (mh P w k) (c + q)) = .live i := slot_live R.tab.ris hi
      have fin : wpAny (model P w) A (searchRest a (.ref x) (mh P w k) true f es t (way t.mask (mh P w k) (c + q)) i (stp t (mh P w k) (c + (q + 1)))) Q E s := by
        unfold searchRest
        rw [R.entry hy]
        dsimp only
        refine wpAny_bind (wpAny_holding (wpAny_eqBool_tuple hu (R.tup y ym) hx (wpAny_bind (wpAny_setState_of ho hd R.fits ?_))))
        dsimp only
        by_cases hyk : y.2 = k
        · refine wp_if_pos (by rw [decide_eq_true hyk]; rfl) (wpAny_pure (hin ?_))
          exact hyk ▸ List.mem_map.mpr ⟨y, ym, rfl⟩
        · refine wp_if_neg (by rw [decide_eq_false hyk]; exact Bool.false_ne_true) ?_
          try refine wpAny_bind (wpAny_pure ?_)
          rw [sameMem]
          dsimp only
          simp only [if_true, sl, R.entry hy]
          refine wpAny_bind (wpAny_isSame_ref_self (wpAny_bind (wpAny_pure ?_)))
          simp only [if_true]
          refine wp_if_neg (by rw [decide_eq_false hyk]; exact Bool.false_ne_true) (ih (c + (q + 1)) _ rfl (by omega) (by omega) fun j z hz hzk => ?_)
          obtain ⟨c', b1, b2, b3⟩ := hre j z hz hzk
          have n1 : ¬ c' < c + q := fun lt => hno (c' - c) j (by omega) (by rw [jq, Nat.add_sub_cancel' b1]; exact b3) ((hh j z hz).trans (by rw [hzk]))
          have n2 : c' ≠ c + q := fun eq => by
            rw [eq] at b3
            have s2 := slot_live R.tab.ris b3
            rw [sl] at s2
            injection s2 with s2
            rw [← s2, hy] at hz
            exact hyk (by rw [Option.some.inj hz]; exact hzk)
          exact ⟨c', by omega, b2, b3⟩
      by_cases hl : t.led = true
      · refine wp_if_neg (by rw [hl]; exact Bool.false_ne_true) ?_
        try refine wpAny_bind (wpAny_pure ?_)
        exact fin
      · refine wp_if_pos (by simpa using hl) (wpAny_bind (seen_m hx (fun v hv => ?_) (wp_if_neg Bool.false_ne_true ?_)))
        · obtain ⟨e, he, ee⟩ := List.mem_map.mp hv
          have he2 : e ∈ es.toList := by
            have := (Array.mem_filter.mp (Array.mem_toList_iff.mp he)).1
            exact Array.mem_toList_iff.mpr this
          rw [R.rows] at he2
          obtain ⟨z, hz, ez⟩ := List.mem_map.mp he2
          exact ⟨z.2, z.1, by rw [← ee, ← ez], R.tup z hz⟩
        · try refine wpAny_bind (wpAny_pure ?_)
          exact fin
    · have e1 : (nth t.mask (stp t (mh P w k) c) (K - c)).j = way t.mask (mh P w k) K := by rw [jq, Nat.add_sub_cancel' hc]
      rw [e1] at hpr
      have pr2 : t.probe (fun i => (es[i]?.map (·.1)).getD 0) (mh P w k) (stand.getD (t.probeStart (mh P w k))) = some (.empty (way t.mask (mh P w k) K) none) := by
        rw [hst]; exact hpr
      rw [pr2]
      dsimp only
      refine wpAny_pure (hout fun hm => ?_)
      obtain ⟨z, hz, ez⟩ := List.mem_map.mp hm
      obtain ⟨j, hj⟩ := List.getElem?_of_mem hz
      obtain ⟨c', b1, b2, b3⟩ := hre j z hj ez
      exact hno (c' - c) j (by omega) (by rw [jq, Nat.add_sub_cancel' b1]; exact b3) ((hh j z hj).trans (by rw [ez]))
theorem search_m (R : SetM P w s.heap a L es ep t) {x : Addr} {k : List Key} (hx : IsM P w s.heap k x) (hu : A.units < cLine) {Q : SetFound → Shared → Prop}
    (hin : k ∈ L.map (·.2) → Q (.there none) s)
    (hout : ∀ K, k ∉ L.map (·.2) → way t.mask (mh P w k) K ∉ t.place.toList → (∀ c, c < K → way t.mask (mh P w k) c ∈ t.place.toList) → Q (.free (way t.mask (mh P w k) K) false) s) :
    wpAny (model P w) A (setSearch a (.ref x) (mh P w k) true) Q E s := by
  obtain ⟨K, hKf, hK, hKb⟩ := R.tab.first (by rw [List.length_map, R.mask]; have := R.few; omega) (mh P w k)
  have big : K < 100000 := by
    refine Nat.lt_trans hKf ?_
    rw [R.mask]
    decide
  unfold setSearch
  refine find_m R hx hu hKf hK hKb hin (fun z => hout K z hK hKb) 100000 0 none rfl (Nat.zero_le _) (by omega) fun i q hq hqk => ?_
  have g1 : (L.map fun q => mh P w q.2)[i]? = some (mh P w k) := by
    rw [List.getElem?_map, hq, ← hqk]
    rfl
  have g2 : i < t.place.toList.length := by
    rw [Array.length_toList, R.psize]
    exact (List.getElem?_eq_some_iff.mp hq).1
  obtain ⟨c, b1, b2⟩ := R.tab.before hK g1 (List.getElem?_eq_getElem g2)
  exact ⟨c, Nat.zero_le _, b1, by rw [List.getElem?_eq_getElem g2, b2]⟩
theorem isM_keep {h h' : Heap} {k : List Key} {b : Addr} (x : IsM P w h k b) (e : ∀ o, h.get? b = some o → o.cls = .type "tuple" → h'.get? b = some o) : IsM P w h' k b := by
  obtain ⟨o, items, n, ho, hc, r⟩ := x
  exact ⟨o, items, n, e o ho hc, hc, r⟩
theorem add_m (R : SetM P w s.heap a L es ep t) {x : Addr} {k : List Key} (hx : IsM P w s.heap k x) (hu : A.units < cLine) (hl : L.length ≤ 2) {Q : Bool → Shared → Prop}
    (hQ : ∀ b h' L' es' ep' t', Heap.SameBut a s.heap h' → SetM P w h' a L' es' ep' t' → (k ∈ L.map (·.2) → L' = L) → (k ∉ L.map (·.2) → L'.Perm ((x, k) :: L)) → Q b { s with heap := h' }) :
    wpAny (model P w) A (setAddHashed a (.ref x) (mh P w k)) Q E s := by
  obtain ⟨o, ho, hex, hd⟩ := R.ob
  unfold setAddHashed
  refine wpAny_holding ?_
  rw [show (100000 : Nat) = 99999 + 1 from rfl, setAddHashedIn_succ]
  refine wpAny_bind (wpAny_setState_of ho hd R.fits ?_)
  dsimp only
  refine wp_if_neg (by simp [byScan, Value.scannable]) ?_
  try refine wpAny_bind (wpAny_pure ?_)
  refine wpAny_bind (search_m R hx hu (fun hm => ?_) fun K hm hK hb => ?_)
  · dsimp only
    exact wpAny_pure (hQ false s.heap L es ep t (Heap.SameBut.refl a s.heap) R (fun _ => rfl) fun z => absurd hm z)
  dsimp only
  refine wpAny_bind (wpAny_setState_of ho hd R.fits ?_)
  dsimp only
  obtain ⟨q1, q2, q3, q4, q5, q6, q7, q8, q9⟩ := R.tab.put hK hb
  generalize hpt : t.put (way t.mask (mh P w k) K) = pt at q1 q3 q4 q5 q6 q7 q8 q9 ⊢
  obtain ⟨t1, j⟩ := pt
  dsimp only at q1 q3 q4 q5 q6 q7 q8 q9 ⊢
  have full : t1.tooFull = false := by
    unfold SetTable.tooFull
    rw [q9, List.length_map, q4, R.mask, decide_eq_false_iff_not]
    omega
  rw [← q1] at q2 q3
  have newrows : (SetTable.insertAt es j (mh P w k, Value.ref x)).toList = (L.take j ++ (x, k) :: L.drop j).map fun q => (mh P w q.2, Value.ref q.1) := by
    rw [SetTable.toList_insertAt, R.rows, List.map_append, List.map_cons, List.map_take, List.map_drop]
  have pm : (L.take j ++ (x, k) :: L.drop j).Perm ((x, k) :: L) := put_perm L j (x, k)
  have tabs : TabOk t1 ((L.take j ++ (x, k) :: L.drop j).map fun q => mh P w q.2) := by
    rw [List.map_append, List.map_cons, List.map_take, List.map_drop]
    exact q3
  have esz : (SetTable.insertAt es j (mh P w k, Value.ref x)).size = L.length + 1 := by
    rw [← Array.length_toList, newrows, List.length_map, pm.length_eq, List.length_cons]
  generalize SetTable.insertAt es j (mh P w k, Value.ref x) = es1 at newrows esz ⊢
  generalize L.take j ++ (x, k) :: L.drop j = L1 at newrows pm tabs
  have keep : ∀ (u : SetTable) {k' : List Key} {b : Addr}, IsM P w s.heap k' b → IsM P w (s.heap.update a (Obj.putSet es1 u)) k' b := fun u {k' b} z => by
    refine isM_keep z fun ob hob hcl => ?_
    have nb : b ≠ a := fun e => by
      rw [e, ho] at hob
      have e2 := hex.1
      rw [Option.some.inj hob, hcl] at e2
      exact absurd e2 (by decide)
    exact ((Heap.SameBut.update s.heap a (Obj.putSet es1 u)).2 b nb).trans hob
  have fin : ∀ u : SetTable, TabOk u (L1.map fun q => mh P w q.2) → u.led = t.led → u.mask = t.mask → wpAny (model P w) A (pure true) Q E { s with heap := s.heap.update a (Obj.putSet es1 u) } := fun u h1 h2 h3 => by
    refine wpAny_pure (hQ true _ L1 es1 (ep + 1) u (Heap.SameBut.update s.heap a (Obj.putSet es1 u)) ⟨⟨_, store_at ho hd, ⟨hex.1, hex.2.1, hex.2.2⟩, rfl⟩, newrows, h1, ?_, fun q hq => ?_, by rw [h2]; exact R.led, by rw [h3]; exact R.mask, by rw [pm.length_eq, List.length_cons]; omega⟩ (fun z => absurd z hm) fun _ => pm)
    · refine (pm.map (·.2)).nodup_iff.mpr ?_
      rw [List.map_cons]
      exact List.nodup_cons.mpr ⟨hm, R.nd⟩
    · rcases List.mem_cons.mp (pm.mem_iff.mp hq) with e | hq
      · rw [e]; exact keep u hx
      · exact keep u (R.tup q hq)
  have go : ∀ c : Bool, wpAny (model P w) A (do
      let t := if c then t1 else { t1 with plain := false }
      storeSet a es1 t
      if !false && t.tooFull then setRelay a (SetTable.grown (es.size + 1))
      return true) Q E s := fun c => by
    have f0 : ((!false) && (if c = true then t1 else { t1 with plain := false }).tooFull) = false := by
      cases c
      · exact full
      · exact full
    dsimp only
    refine wpAny_bind (wpAny_storeSet_of ho hd ?_ (by rw [esz, sizeLine_eq]; omega))
    rw [f0]
    first
      | exact wp_if_neg (by simp) (fin _ (by cases c <;> exact ⟨tabs.ris, tabs.dm, tabs.sz, tabs.mok, tabs.bd, tabs.reach⟩) (by cases c <;> exact q5) (by cases c <;> exact q4))
      | (refine wpAny_bind ?_; refine wp_if_neg (by simp) ?_; exact wpAny_pure (fin _ (by cases c <;> exact ⟨tabs.ris, tabs.dm, tabs.sz, tabs.mok, tabs.bd, tabs.reach⟩) (by cases c <;> exact q5) (by cases c <;> exact q4)))
      | (refine wp_if_neg (by simp) ?_; exact wpAny_bind (wpAny_pure (fin _ (by cases c <;> exact ⟨tabs.ris, tabs.dm, tabs.sz, tabs.mok, tabs.bd, tabs.reach⟩) (by cases c <;> exact q5) (by cases c <;> exact q4))))
  by_cases hpl : t1.plain = true
  · first
      | (refine wpAny_bind ?_; refine wp_if_pos hpl ?_; exact hash_m hx go)
      | exact wp_if_pos hpl (wpAny_bind (hash_m hx go))
  · first
      | (refine wpAny_bind ?_; refine wp_if_neg hpl ?_; exact wpAny_pure (go true))
      | exact wp_if_neg hpl (wpAny_bind (wpAny_pure (go true)))
end
end DL
end

section
set_option Elab.async false
set_option linter.all false
set_option maxRecDepth 100000
set_option maxHeartbeats 4000000
/-! The data layer, part 16: set(list) of two such tuples at most. -/
namespace DL
open PySem PySem.Spec PyProof.Rows L2
/-- what a set has of the first i -/
structure GotM (ks : List (Addr × List Key)) (i : Nat) (L : List (Addr × List Key)) : Prop where
  sub : ∀ q ∈ L, q ∈ ks.take i
  all : ∀ q ∈ ks.take i, q.2 ∈ L.map (·.2)
  len : L.length ≤ i
theorem GotM.step {ks L L' : List (Addr × List Key)} {i : Nat} {x : Addr × List Key} (g : GotM ks i L) (h : ks[i]? = some x) (h1 : x.2 ∈ L.map (·.2) → L' = L) (h2 : x.2 ∉ L.map (·.2) → L'.Perm (x :: L)) : GotM ks (i + 1) L' := by
  have tk : ks.take (i + 1) = ks.take i ++ [x] := by rw [List.take_succ, h]; rfl
  by_cases c : x.2 ∈ L.map (·.2)
  · rw [h1 c]
    refine ⟨fun q hq => by rw [tk]; exact List.mem_append_left _ (g.sub q hq), fun q hq => ?_, Nat.le_succ_of_le g.len⟩
    rw [tk] at hq
    rcases List.mem_append.mp hq with z | z
    · exact g.all q z
    · rw [List.mem_singleton.mp z]; exact c
  · have pm := h2 c
    refine ⟨fun q hq => ?_, fun q hq => ?_, by rw [pm.length_eq]; exact Nat.succ_le_succ g.len⟩
    · rw [tk]
      rcases List.mem_cons.mp (pm.mem_iff.mp hq) with z | z
      · exact List.mem_append_right _ (by rw [z]; exact List.mem_singleton.mpr rfl)
      · exact List.mem_append_left _ (g.sub q z)
    · rw [(pm.map (·.2)).mem_iff, List.map_cons]
      rw [tk] at hq
      rcases List.mem_append.mp hq with z | z
      · exact List.mem_cons_of_mem _ (g.all q z)
      · rw [List.mem_singleton.mp z]; exact List.mem_cons_self
section
variable {P : Program} {w : World} {A : Around} {E : Value → Shared → Prop} {s : Shared}
theorem SetM.keep {h h' : Heap} {a : Addr} {L : List (Addr × List Key)} {es : Array (Int × Value)} {ep : Nat} {t : SetTable} (R : SetM P w h a L es ep t) (ha : ∀ o, h.get? a = some o → h'.get? a = some o) (ht : ∀ q ∈ L, IsM P w h' q.2 q.1) : SetM P w h' a L es ep t := by
  obtain ⟨o, ho, r⟩ := R.ob
  exact ⟨⟨o, ha o ho, r⟩, R.rows, R.tab, R.nd, ht, R.led, R.mask, R.few⟩
abbrev newSet (w : World) : Obj := { cls := .type "set", dict := none, data := .set #[] 0 (.fresh 0 0 (!w.params.followText "set-order")) }
theorem setM_new {h : Heap} {a : Addr} (ho : h.get? a = some (newSet w)) : SetM P w h a [] #[] 0 (.fresh 0 0 (!w.params.followText "set-order")) where
  ob := ⟨_, ho, ⟨rfl, rfl, rfl⟩, rfl⟩
  rows := rfl
  tab := ⟨List.Pairwise.nil, rfl, rfl, .inl rfl, fun x hx => (nomatch hx), fun i h j hi => by simp at hi⟩
  nd := List.nodup_nil
  tup := fun q hq => nomatch hq
  led := show _ ∨ (!w.params.followText "set-order") = true by
    cases w.params.followText "set-order"
    · exact .inr rfl
    · exact .inl rfl
  mask := rfl
  few := Nat.zero_le _
theorem update_m {I : Addr} {fp wr : List Addr} {G : Array GenState → Array GenState → Prop} {n : Nat} {Pv : Nat → Value → Prop} {St : Nat → Shared → Prop} {R : Result → Shared → Prop}
    (W : WalksS P w A.in1 I fp wr G n Pv St) (S : Addr) (hSf : S ∉ fp) (ks : List (Addr × List Key)) (hn : n = ks.length) (h2 : ks.length ≤ 2) (hval : ∀ i v, Pv i v → ∃ q, ks[i]? = some q ∧ v = .ref q.1)
    (h0 : Heap) (hk : ∀ q ∈ ks, IsM P w h0 q.2 q.1) (hS0 : h0.get? S = none) (hw0 : ∀ b ∈ wr, h0.get? b = none) (hu : A.in1.units < cLine) :
    ∀ (k i : Nat) (s : Shared), i + k = n → St i s → (∀ b o, h0.get? b = some o → s.heap.get? b = some o) → (∃ L es ep t, SetM P w s.heap S L es ep t ∧ GotM ks i L) →
      (∀ s' L es ep t, Moved (S :: wr) G s s' → SetM P w s'.heap S L es ep t → GotM ks n L → (∀ b o, h0.get? b = some o → s'.heap.get? b = some o) → R (.ok (.ret .none)) s') →
      codeAny (model P w) A (.builtin "set.update.loop" ⟨[.ref S, .ref I], []⟩) R s := by
  have sb : ∀ b ∈ wr, b ∈ S :: wr := fun b hb => List.mem_cons_of_mem _ hb
  have Sw : S ∉ wr := fun z => hSf (W.sub _ z)
  have stay : ∀ {u u' : Shared}, Moved wr G u u' → (∀ b o, h0.get? b = some o → u.heap.get? b = some o) → ∀ b o, h0.get? b = some o → u'.heap.get? b = some o := fun hm z b o e =>
    hm.heap b o (fun hb => by rw [hw0 b hb] at e; cases e) (z b o e)
  have inks : ∀ {L : List (Addr × List Key)} {i : Nat}, GotM ks i L → ∀ q ∈ L, q ∈ ks := fun g q hq => List.mem_of_mem_take (g.sub q hq)
  intro k
  induction k with
  | zero =>
    intro i s hi hst hold ⟨L, es, ep, t, hS, g⟩ hR
    have hi' : i = n := hi
    subst hi'
    refine codeAny_builtin F.entry_set_update_loop ?_
    rw [Around.under_plainId F.plain_set_update_loop _]
    show wpAny _ A.in1 (pyNext (.ref I) >>= _) _ _ s
    refine wpAny_bind (W.done s _ _ hst fun s' hm => ?_)
    have old := stay hm hold
    exact show wpAny _ A.in1 (ret Value.none) _ _ s' from wpAny_pure (hR s' L es ep t (hm.mono sb) (hS.keep (fun o e => hm.heap S o Sw e) fun q hq => isM_keep (hk q (inks g q hq)) fun o e _ => old _ o e) g old)
  | succ k ih =>
    intro i s hi hst hold ⟨L, es, ep, t, hS, g⟩ hR
    refine codeAny_builtin F.entry_set_update_loop ?_
    rw [Around.under_plainId F.plain_set_update_loop _]
    show wpAny _ A.in1 (pyNext (.ref I) >>= _) _ _ s
    refine wpAny_bind (W.item i s _ _ (by omega) hst fun v s' hP hst' hm => ?_)
    obtain ⟨q, hq, rfl⟩ := hval i v hP
    have old := stay hm hold
    have hS1 : SetM P w s'.heap S L es ep t := hS.keep (fun o e => hm.heap S o Sw e) fun q hq => isM_keep (hk q (inks g q hq)) fun o e _ => old _ o e
    have hx : IsM P w s'.heap q.2 q.1 := isM_keep (hk q (List.mem_of_getElem? hq)) fun o e _ => old _ o e
    have il : i < ks.length := (List.getElem?_eq_some_iff.mp hq).1
    show wpAny _ A.in1 (holding [Value.ref q.1] (setAdd S (.ref q.1)) >>= _) _ _ s'
    refine wpAny_bind (wpAny_holding ?_)
    unfold setAdd
    refine wpAny_holding (wpAny_bind (wpAny_pyHash_tuple hu hx ?_))
    refine add_m (s := { s' with toks := s'.toks + (q.2.length + 1) }) hS1 hx hu (by have := g.len; omega) fun b h' L' es' ep' t' hsb hS2 c1 c2 => ?_
    have g2 : GotM ks (i + 1) L' := g.step hq c1 c2
    have old2 : ∀ b o, h0.get? b = some o → h'.get? b = some o := fun b o e => (hsb.2 b (fun z => by rw [z, hS0] at e; cases e)).trans (old b o e)
    refine wpAny_pure ⟨plainId_quiet F.plain_set_update_loop _, ih (i + 1) _ (by omega) (W.frame _ s' _ _ hst' (Nat.le_add_right _ _) fun b hb o e => ?_) old2 ⟨L', es', ep', t', hS2, g2⟩ fun s'' L2 es2 ep2 t2 hm2 hS3 g3 old3 => ?_⟩
    · rw [hsb.2 b (fun z : b = S => hSf (by rw [← z]; exact hb))]; exact e
    · refine hR s'' L2 es2 ep2 t2 (Moved.trans W.gtrans ((hm.mono sb).then_heap (Nat.le_add_right _ _) fun b o hb e => ?_) hm2) hS3 g3 old3
      rw [hsb.2 b (fun z : b = S => hb (by rw [z]; exact List.mem_cons_self))]; exact e
set_option maxHeartbeats 6400000 in
/-- set(l), l a list of two such tuples at most -/
theorem call_set_m {l : Addr} {items : Array Value} (ks : List (Addr × List Key)) {Q : Value → Shared → Prop} (hh : A.handled = none) (hl : s.heap.IsList l items) (hit : items.toList = ks.map fun q => Value.ref q.1)
    (hk : ∀ q ∈ ks, IsM P w s.heap q.2 q.1) (h2 : ks.length ≤ 2) (hu : A.units + 3 < cLine)
    (h : ∀ (h' : Heap) (tk : Nat) L es ep t, SetM P w h' s.heap.objs.size L es ep t → GotM ks ks.length L → (∀ b o, s.heap.get? b = some o → h'.get? b = some o) → Q (.ref s.heap.objs.size) { s with heap := h', toks := tk }) :
    wpAny (model P w) A (call (.type "set") [.ref l]) Q E s := by
  have isz : items.size = ks.length := by
    rw [← Array.length_toList, hit, List.length_map]
  obtain ⟨c, tl, hmro⟩ := F.called_set.mro
  have hmade := F.called_set.made
  have hsub := F.called_set.sub
  refine wpAny_call (codeAny_of_tree ?_)
  show wpAny _ _ (callAny (.type "set") _) _ _ _
  refine wpAny_pure ⟨Code.quiet_builtin _ (by decide +kernel), codeAny_builtin F.entry_type_call ?_⟩
  rw [Around.under_plain (weight_type_call_type "set" [.ref l] []) rfl]
  have hnt := F.called_set.notType
  have hcc := F.called_set.canCreate
  have hct := F.typeCall_set_1 (.ref l)
  repeat (any_goals (first | assumption | wp_step))
  refine codeAny_mono (code_set_led1 (.ref l) (E := E) (Q₁ := fun obj s₁ => obj = .ref s.heap.objs.size ∧ s₁ = { s with heap := s.heap.push (newSet w) }) ⟨rfl, rfl⟩) fun r s₁ hr => ?_
  cases r with
  | error e => exact hr
  | ok fl =>
    cases fl with
    | ret obj =>
      obtain ⟨rfl, rfl⟩ := hr
      have hS : (s.heap.push (newSet w)).get? s.heap.objs.size = some (newSet w) := Heap.get?_push_size _ rfl
      have hT : Shared.TypeIs { s with heap := s.heap.push (newSet w) } (.ref s.heap.objs.size) "set" := ⟨_, hS, rfl⟩
      have hli := F.called_set.init.lookup
      have hbi := F.called_set.init.bind (.ref s.heap.objs.size)
      repeat (any_goals (first | assumption | wp_step))
      refine codeAny_mono (codeAny_call_builtin (R := wants (fun r s₂ => r = .none ∧ ∃ h' tk L es ep t, s₂ = { s with heap := h', toks := tk } ∧ SetM P w h' s.heap.objs.size L es ep t ∧ GotM ks ks.length L ∧
          (∀ b o, s.heap.get? b = some o → h'.get? b = some o)) E) F.called_set.init.plain F.entry_set_init (check_set_init_1 hT ?_)) fun r₂ s₂ hr₂ => ?_
      · obtain ⟨⟨ocls, odict, odata, oslots⟩, hol, hcl, nl, hdl⟩ := hl
        simp only at hcl hdl
        subst hcl hdl
        have hol1 : (s.heap.push (newSet w)).get? l = some { cls := .type "list", dict := odict, data := .seq items nl, slots := oslots } := Heap.get?_push_of_some _ hol
        have g1 := F.sub_list_set
        have g2 := F.sub_list_frozenset
        have g3 : (Value.type "list" == Value.type "dict") = false := by decide
        have isl : (s.heap.push (newSet w)).IsList l items := ⟨_, hol1, rfl, nl, rfl⟩
        unfold Builtin.«set.__init__» noKeywords Builtin.Frozenset.updateFrom
        generalize hPI : pyIter = PI
        wp_walk
        subst hPI
        refine wpAny_pyIter_list isl (wpAny_bind (wpAny_runValue ?_))
        have lt : l < s.heap.objs.size := Heap.lt_size hol
        have hdl : A.in1.in1.in1.handled = none := by simp [hh]
        have ne1 : l ≠ (s.heap.push (newSet w)).objs.size := by
          rw [Heap.size_push]; exact Nat.ne_of_lt (Nat.lt_succ_of_lt lt)
        have nf : s.heap.objs.size ∉ [(s.heap.push (newSet w)).objs.size, l] := by
          rw [Heap.size_push]
          simp only [List.mem_cons, List.mem_singleton, List.not_mem_nil, or_false, not_or]
          exact ⟨Nat.ne_of_lt (Nat.lt_succ_self _), Nat.ne_of_gt lt⟩
        have vals : ∀ (i : Nat) (v : Value), items[i]? = some v → ∃ q, ks[i]? = some q ∧ v = .ref q.1 := fun i v hv => by
          rw [← Array.getElem?_toList, hit, List.getElem?_map] at hv
          cases e : ks[i]? with
          | none => rw [e] at hv; cases hv
          | some q =>
            rw [e] at hv
            exact ⟨q, rfl, (Option.some.inj hv).symm⟩
        have no : ∀ b, s.heap.objs.size ≤ b → s.heap.get? b = none := fun b hb => by
          cases e : s.heap.get? b with
          | none => rfl
          | some o => exact absurd (Nat.lt_of_lt_of_le (Heap.lt_size e) hb) (Nat.lt_irrefl _)
        refine update_m ((Walks.list hdl _ l ne1 items).toS) s.heap.objs.size nf ks isz h2 vals s.heap hk (no _ (Nat.le_refl _)) (fun b hb => no b (by
            rw [List.mem_singleton.mp hb, Heap.size_push]
            exact Nat.le_succ _)) hu items.size 0 _ (Nat.zero_add _)
          ⟨⟨_, Heap.get?_push_size _ rfl, rfl, rfl⟩, (isl.push _)⟩ (fun b o e => Heap.get?_push_of_some _ (Heap.get?_push_of_some _ e)) ⟨[], #[], 0, _, setM_new (Heap.get?_push_of_some _ hS), ⟨fun q hq => (nomatch hq), fun q hq => by simp at hq, Nat.le_refl _⟩⟩ ?_
        intro s' L es ep t hm hS' g' old
        obtain ⟨h', gg, dd, tk', oo⟩ := s'
        have eg : gg = s.gens := hm.gens
        have ed : dd = s.drawn := hm.drawn
        have eo : oo = s.os := hm.os
        subst eg ed eo
        show wpAny _ _ _ _ _ _
        refine wpAny_pure ?_
        show wpAny _ _ (ret Value.none) _ _ _
        rw [isz] at g'
        exact wpAny_pure ⟨rfl, h', tk', L, es, ep, t, rfl, hS', g', old⟩
      · cases r₂ with
        | error e => exact hr₂
        | ok fl₂ =>
          cases fl₂ with
          | ret r =>
            obtain ⟨rfl, h', tk, L, es, ep, t, rfl, hS', g', old⟩ := hr₂
            repeat (any_goals (first | assumption | wp_step))
            exact h _ _ _ _ _ _ hS' g' old
          | _ => exact hr₂.elim
    | _ => exact hr.elim
end
end DL
end

section
set_option Elab.async false
set_option linter.all false
set_option maxRecDepth 100000
set_option maxHeartbeats 4000000
/-! The data layer, part 17: sorted(set(xs)); t < u of two pairs. -/
namespace DL
open PySem PySem.Spec PyProof.Rows L2
/-! ### the order of pairs -/
def pLt (x : Str) (i : Int) (y : Str) (j : Int) : Bool := if x = y then decide (i < j) else decide (x.cps.toList < y.cps.toList)
theorem pLt_dataLt (x : Str) (i : Int) (y : Str) (j : Int) : PySem.W.dataLt (.tuple [.str x, .int i]) (.tuple [.str y, .int j]) = pLt x i y j := by
  rw [PySem.W.dataLt_pair (by simp [PySem.W.alike]) (by simp [PySem.W.alike]), PySem.W.dataLt_str, PySem.W.dataLt_int]
  unfold pLt
  by_cases h : x = y
  · subst h
    by_cases h2 : i = j
    · subst h2; simp [PyData.eqv]
    · simp [PyData.eqv, h2]
  · simp [PyData.eqv, h]
theorem pLt_cases {x : Str} {i : Int} {y : Str} {j : Int} (h : ¬ (x = y ∧ i = j)) : pLt y j x i = !pLt x i y j := by
  unfold pLt
  by_cases e : x = y
  · subst e
    have hij : i ≠ j := fun z => h ⟨rfl, z⟩
    simp only [if_true]
    by_cases c : i < j
    · have : ¬ j < i := by omega
      simp [c, this]
    · have : j < i := by omega
      simp [c, this]
  · have e' : ¬ y = x := fun z => e z.symm
    rw [if_neg e, if_neg e']
    have ne : x.cps.toList ≠ y.cps.toList := fun z => e (PySem.W.str_of_cps z)
    by_cases c : x.cps.toList < y.cps.toList
    · have : ¬ y.cps.toList < x.cps.toList := fun z => List.lt_asymm c z
      simp [c, this]
    · have : y.cps.toList < x.cps.toList := by
        rcases List.le_iff_lt_or_eq.mp (List.not_lt.mp c) with z | z
        · exact z
        · exact absurd z.symm ne
      simp [c, this]
/-- sorted(set(xs)): two pairs of a text and an int at most -/
def sortSetL : List D → Option (List D)
  | [] => some []
  | [.tuple [.str x, .int i]] => some [.tuple [.str x, .int i]]
  | [.tuple [.str x, .int i], .tuple [.str y, .int j]] => some (if x = y ∧ i = j then [.tuple [.str x, .int i]] else if pLt x i y j = true then [.tuple [.str x, .int i], .tuple [.str y, .int j]] else [.tuple [.str y, .int j], .tuple [.str x, .int i]])
  | _ => none
def sortSetD : D → Option D
  | .list ds => (sortSetL ds).map .list
  | _ => none
theorem perm_map {α β : Type} {f : α → β} {vs ws : List β} (h : vs.Perm ws) : ∀ L : List α, ws = L.map f → ∃ L1 : List α, L1.Perm L ∧ vs = L1.map f := by
  induction h with
  | nil => intro L e; exact ⟨L, List.Perm.refl L, by rw [e]⟩
  | @cons x l1 l2 p ih =>
    intro L e
    cases L with
    | nil => cases e
    | cons y L =>
      rw [List.map_cons] at e
      obtain ⟨e1, e2⟩ := List.cons.inj e
      obtain ⟨L1, p1, q1⟩ := ih L e2
      exact ⟨y :: L1, p1.cons y, by rw [List.map_cons, ← q1, e1]⟩
  | swap x y l =>
    intro L e
    match L, e with
    | a :: b :: L, e =>
      rw [List.map_cons, List.map_cons] at e
      obtain ⟨e1, e2⟩ := List.cons.inj e
      obtain ⟨e2, e3⟩ := List.cons.inj e2
      exact ⟨b :: a :: L, List.Perm.swap a b L, by rw [List.map_cons, List.map_cons, ← e1, ← e2, ← e3]⟩
  | trans p1 p2 ih1 ih2 =>
    intro L e
    obtain ⟨L2, q1, q2⟩ := ih2 L e
    obtain ⟨L1, r1, r2⟩ := ih1 L2 q2
    exact ⟨L1, r1.trans q1, r2⟩
/-- a key as data -/
def kd1 : Key → D
  | .inl i => .int i
  | .inr x => .str x
def kD (k : List Key) : D := .tuple (k.map kd1)
theorem ms2 {α : Type} (le : α → α → Bool) (a b : α) : [a, b].mergeSort le = if le a b = true then [a, b] else [b, a] := by
  simp only [List.mergeSort, List.MergeSort.Internal.splitInTwo]
  simp [List.merge]
section
variable {P : Program} {w : World} {A : Around} {E : Value → Shared → Prop} {s : Shared}
/-- keys of a text and an int -/
def Prs (L : List (Addr × List Key)) : Prop := ∀ q ∈ L, ∃ x i, q.2 = [.inr x, .inl i]
theorem reads_k {h : Heap} {k : List Key} {a : Addr} {x : Str} {i : Int} (hk : IsM P w h k a) (e : k = [.inr x, .inl i]) : Reads h (.ref a) (kD k) [] := by
  subst e
  obtain ⟨o, its, n, ho, hc, hd, hi⟩ := hk
  generalize hl : its.toList = l at hi
  cases hi with
  | @cons k1 v1 ks vs h1 hr =>
    cases hr with
    | @cons k2 v2 ks vs h2 hr2 =>
      cases hr2
      rcases keyIs_shape (show keyIs (.inr x) v1 = true from h1) with ⟨_, _, e, _⟩ | ⟨x', t, e1, e2⟩
      · cases e
      rcases keyIs_shape (show keyIs (.inl i) v2 = true from h2) with ⟨i', t', e3, e4⟩ | ⟨_, _, e, _⟩
      · cases e1; cases e3
        subst e2 e4
        refine .tuple ho hc hd ?_
        rw [hl]
        exact .cons (as := []) (bs := []) (.str _ _) (.cons (as := []) (bs := []) (.int _ _) .nil)
      · cases e
theorem sort_m {a : Addr} {L : List (Addr × List Key)} {es : Array (Int × Value)} {ep : Nat} {t : SetTable} {Q : Value → Shared → Prop} (R : SetM P w s.heap a L es ep t) (hh : A.handled = none) (hp : Prs L) (hu : A.units + 64 < cLine)
    (hQ : ∀ s' p (c : Nat) (L1 : List (Addr × List Key)), (∀ b o, s.heap.get? b = some o → s'.heap.get? b = some o) → s'.gens = s.gens → s'.os = s.os → s.heap.objs.size ≤ p → L1.Perm L →
      s'.heap.get? p = some (seqObj "list" ((L1.mergeSort (PySem.W.dataLe false fun q => kD q.2)).map fun q => Value.ref q.1).toArray c) → Q (.ref p) s') :
    wpAny (model P w) A (call (.builtin "sorted") [.ref a]) Q E s := by
  obtain ⟨o, ho, hex, hd⟩ := R.ob
  have hz := R.size
  have hf := R.few
  refine Calls.call_function_entry kind_sorted plain_sorted entry_sorted (args_sorted1 _) ?_
  unfold Builtin.«sorted»
  refine wpAny_bind (m := checkCount "sorted" 1 1 _) (wpAny_pure ?_)
  refine wpAny_bind (collect_set (A := A.in1) hh ⟨o, ho, hex.1, hd⟩ R.fits (by unfold scanBound; omega) R.tab.ris R.led fun s1 vs k1 hsz g1 o1 pm => ?_)
  have er : es.toList.map (·.2) = L.map fun q => Value.ref q.1 := by
    rw [R.rows, List.map_map]
    rfl
  rw [er] at pm
  obtain ⟨L1, pL, rfl⟩ := perm_map pm L rfl
  have l3 : L1.length ≤ 3 := by rw [pL.length_eq]; exact hf
  refine wpAny_bind (wpAny_newList ?_ (by rw [List.length_map, sizeLine_eq]; omega))
  have hoL : (s1.heap.push (seqObj "list" (L1.map fun q => Value.ref q.1).toArray 0)).get? s1.heap.objs.size = some (seqObj "list" (L1.map fun q => Value.ref q.1).toArray 0) := Heap.get?_push_size _ rfl
  have kp : ∀ b u, s.heap.get? b = some u → (s1.heap.push (seqObj "list" (L1.map fun q => Value.ref q.1).toArray 0)).get? b = some u := fun b u e => Heap.get?_push_of_some _ (k1 b u e)
  have each : ∀ M : List (Addr × List Key), (∀ q ∈ M, q ∈ L) → PySem.W.EachIs (fun v (q : Addr × List Key) => v = Value.ref q.1) (M.map fun q => Value.ref q.1) M ∧
      PySem.W.EachIs (fun v (q : Addr × List Key) => ∃ as, Reads (s1.heap.push (seqObj "list" (L1.map fun q => Value.ref q.1).toArray 0)) v (kD q.2) as ∧ s1.heap.objs.size ∉ as) (M.map fun q => Value.ref q.1) M := fun M => by
    induction M with
    | nil => exact fun _ => ⟨.nil, .nil⟩
    | cons q M ih =>
      intro hm
      obtain ⟨i1, i2⟩ := ih fun r hr => hm r (List.mem_cons_of_mem _ hr)
      obtain ⟨x, i, e⟩ := hp q (hm q List.mem_cons_self)
      exact ⟨.cons rfl i1, .cons ⟨[], reads_k (isM_keep (R.tup q (hm q List.mem_cons_self)) fun o e _ => kp _ o e) e, by simp⟩ i2⟩
  obtain ⟨e1, e2⟩ := each L1 fun q hq => pL.mem_iff.mp hq
  have shape : ∀ d ∈ L1.map (fun q => kD q.2), ∃ x i, d = .tuple [.str x, .int i] := fun d hd => by
    obtain ⟨q, hq, e⟩ := List.mem_map.mp hd
    obtain ⟨x, i, e3⟩ := hp q (pL.mem_iff.mp hq)
    exact ⟨x, i, by rw [← e, e3]; rfl⟩
  refine wpAny_bind (wpAny_holding (PySem.W.list_sort_data (s := { s1 with heap := s1.heap.push (seqObj "list" (L1.map fun q => Value.ref q.1).toArray 0) }) (enc := fun q : Addr × List Key => kD q.2) hoL e1 e2 (fun d hd d' hd' => ?_) (.inl fun d hd => ?_) (by rw [sizeLine_eq]; omega) (fun q hq => ?_) fun out hlen hout => ?_))
  · obtain ⟨x, i, rfl⟩ := shape d hd
    obtain ⟨y, j, rfl⟩ := shape d' hd'
    simp [PySem.W.alike, PySem.W.alikeAll]
  · obtain ⟨x, i, rfl⟩ := shape d hd
    exact ⟨_, _, rfl⟩
  · obtain ⟨x, i, e⟩ := hp q (pL.mem_iff.mp hq)
    have hd1 : (kD q.2).depth = 1 := by rw [e]; rfl
    rw [hd1, Around.in1_units]
    omega
  · obtain ⟨c, hc⟩ := sortedHeap_at (vs := L1.map fun q => Value.ref q.1) (out := List.toArray out) hoL
    have ho2 : out = (L1.mergeSort (PySem.W.dataLe false fun q => kD q.2)).map fun q => Value.ref q.1 := by
      have gen : ∀ {vs : List Value} {M : List (Addr × List Key)}, PySem.W.EachIs (fun v (q : Addr × List Key) => v = Value.ref q.1) vs M → vs = M.map fun q => Value.ref q.1 := by
        intro vs M z
        induction z with
        | nil => rfl
        | cons r _ ih => rw [List.map_cons, ← ih, r]
      exact gen hout
    rw [ho2] at hc
    refine wpAny_pure ⟨_, rfl, hQ _ s1.heap.objs.size c L1 (fun b u e => ?_) g1 o1 hsz pL ?_⟩
    · have q := k1 b u e
      have hlt := Heap.lt_size q
      rw [ho2]
      exact (sortedHeap_old (Nat.ne_of_lt hlt) (by rw [size_push']; exact Nat.lt_succ_of_lt hlt)).trans (Heap.get?_push_of_some _ q)
    · rw [ho2]
      exact hc
end
end DL
end

section
set_option Elab.async false
set_option linter.all false
set_option maxRecDepth 100000
set_option maxHeartbeats 4000000
/-! The data layer, part 18: sorted(set(xs)) and t < u as rules. -/
namespace DL
open PySem PySem.Spec PyProof.Rows L2
def SetMO (P : Program) (w : World) (a : Addr) (L : List (Addr × List Key)) : HO := .ext fun h => ∃ (es : Array (Int × Value)) (ep : Nat) (t : SetTable), (∃ o, h.get? a = some o ∧ o.ExactSet ∧ o.data = .set es ep t) ∧
  es.toList = (L.map fun q => (mh P w q.2, Value.ref q.1)) ∧ TabOk t (L.map fun q => mh P w q.2) ∧ (L.map (·.2)).Nodup ∧ (w.params.followText "set-order" = true ∨ t.led = true) ∧ t.mask = 7 ∧ L.length ≤ 3
theorem SetM.obj {P : Program} {w : World} {H : Hp} {h : Heap} {a : Addr} {L : List (Addr × List Key)} {es : Array (Int × Value)} {ep : Nat} {t : SetTable} (R : SetM P w h a L es ep t) : ObjOk P w H h a (SetMO P w a L) := by
  obtain ⟨o, ho, r⟩ := R.ob
  refine ⟨⟨es, ep, t, R.ob, R.rows, R.tab, R.nd, R.led, R.mask, R.few⟩, ⟨o, ho⟩, fun h1 h2 ⟨es, ep, t, ⟨o, ho, r⟩, q⟩ k => ⟨es, ep, t, ⟨o, k o ho, r⟩, q⟩⟩
section
variable {X : Cx}
theorem isM_of {pins : List (Addr × Obj)} {σ : L2.St} {H : Hp} {s : Shared} {b : Addr} {k : List Key} (I : Inv X pins σ H s) (h : SqT X.K H b (k.map kV)) : IsM X.prog X.w s.heap k b := by
  obtain ⟨its, r, ⟨o, ho, hc, n, hd⟩, _⟩ := I.tuple h
  exact ⟨o, its.toArray, n, ho, hc, hd, by simpa using items_are r⟩
theorem refs_are : ∀ {ks : List (Addr × List Key)} {us : List Value}, Vals (ks.map fun q => V.ref q.1) us → us = ks.map fun q => Value.ref q.1
  | [], _, .nil => rfl
  | q :: ks, _, .cons r t => by
    cases r
    rw [refs_are t]
    rfl
theorem are_refs : ∀ ks : List (Addr × List Key), Vals (ks.map fun q => V.ref q.1) (ks.map fun q => Value.ref q.1)
  | [] => .nil
  | q :: ks => .cons rfl (are_refs ks)
def rSetM (K : PySem.W.Frag) (P : Program) (w : World) : List V → Hp → VK → Prop := fun xs H Q => ∃ (l : Addr) (ks : List (Addr × List Key)), xs = [V.ref l] ∧ SqL K H l (ks.map fun q => V.ref q.1) ∧ (∀ q ∈ ks, SqT K H q.1 (q.2.map kV)) ∧ ks.length ≤ 2 ∧
  ∀ a L, H a = none → GotM ks ks.length L → (L.map (·.2)).Nodup → Q (.ref a) (upd H a (SetMO P w a L))
theorem cr_setM (hc : X.calm = true) (hu : X.A.units + 64 < cLine) : CallR X (.type "set") (rSetM X.K X.prog X.w) := by
  intro pins s σ H xs us Q I r ⟨l, ks, e, hl, hk, hf, q⟩
  subst e
  rw [Vals.ref1 r]
  obtain ⟨its, rv, pl, hz⟩ := I.list hl
  refine call_set_m (P := X.prog) (w := X.w) ks (I.ok.hd hc) pl.isList (by simpa using refs_are rv) (fun p hp => isM_of I (hk p hp)) hf (by omega) fun h' tk L es ep t R g k => ?_
  exact ⟨.ref s.heap.objs.size, _, I.laid (t' := tk) k (Nat.le_refl _) R.obj, rfl, q _ L (I.hok.fresh (Nat.le_refl _)) g R.nd⟩
def rSortM (K : PySem.W.Frag) (P : Program) (w : World) : List V → Hp → VK → Prop := fun vs H Q => ∃ (a : Addr) (L : List (Addr × List Key)), vs = [V.ref a] ∧ H a = some (SetMO P w a L) ∧ (∀ q ∈ L, SqT K H q.1 (q.2.map kV)) ∧ Prs L ∧
  ∀ (L1 : List (Addr × List Key)) (p : Addr), L1.Perm L → H p = none → Q (.ref p) (upd H p (.lst ((L1.mergeSort (PySem.W.dataLe false fun q => kD q.2)).map fun q => V.ref q.1)))
theorem cr_sortM (hc : X.calm = true) (hu : X.A.units + 64 < cLine) : CallR X (.builtin "sorted") (rSortM X.K X.prog X.w) := by
  intro pins s σ H vs us Q I r ⟨a, L, e, ha, hk, hp, q⟩
  subst e
  obtain ⟨⟨es, ep, t, h1, h2, h3, h4, h5, h6, h7⟩, _⟩ := (show ObjOk X.prog X.w H s.heap a (SetMO X.prog X.w a L) from I.hok a _ ha)
  rw [Vals.ref1 r]
  refine sort_m ⟨h1, h2, h3, h4, fun q hq => isM_of I (hk q hq), h5, h6, h7⟩ (I.ok.hd hc) hp hu fun s' p c L1 k g o hsz pm hg => ?_
  have hfew : L1.length ≤ 3 := by rw [pm.length_eq]; exact h7
  have hlen : ((L1.mergeSort (PySem.W.dataLe false fun q => kD q.2)).map fun q => V.ref q.1).length ≤ sizeLine := by
    rw [List.length_map, List.length_mergeSort, sizeLine_eq]; omega
  have hn : H p = none := I.hok.fresh hsz
  have J : Inv X pins σ (upd H p (.lst ((L1.mergeSort (PySem.W.dataLe false fun q => kD q.2)).map fun q => V.ref q.1))) { s with heap := s'.heap, gens := s'.gens, drawn := s'.drawn, toks := s'.toks } :=
    I.call (ch := []) (Un.laid k hsz hn) (I.hok.laid k hsz ⟨hlen, _, c, are_refs _, hg⟩) (by rw [g]; exact I.bare) (fun _ z => nomatch z)
  have e : s' = { s with heap := s'.heap, gens := s'.gens, drawn := s'.drawn, toks := s'.toks } := by
    cases s'
    cases s
    cases o
    rfl
  rw [e]
  exact ⟨.ref p, _, J, rfl, q L1 p pm hn⟩
end
theorem dd_pair {G : GC} {F : Hp} {v : V} {x : Str} {i : Int} (h : DD G F v (.tuple [.str x, .int i])) : ∃ b, v = .ref b ∧ SqT G.K F b (([.inr x, .inl i] : List Key).map kV) := by
  cases h with
  | @tup a xs ds h1 h2 =>
    cases h2 with
    | cons a1 t1 =>
      cases t1 with
      | cons a2 t2 =>
        cases t2
        cases a1
        cases a2
        exact ⟨a, rfl, h1⟩
theorem sortL_ks {G : GC} {F : Hp} {vs : List V} {ds z : List D} (h : DDs G F vs ds) (e : sortSetL ds = some z) :
    ∃ ks : List (Addr × List Key), vs = ks.map (fun q => V.ref q.1) ∧ (∀ q ∈ ks, SqT G.K F q.1 (q.2.map kV)) ∧ Prs ks ∧ ks.length ≤ 2 ∧ ds = ks.map fun q => kD q.2 := by
  unfold sortSetL at e
  split at e
  · cases h
    exact ⟨[], rfl, fun q hq => (nomatch hq), fun q hq => (nomatch hq), by decide, rfl⟩
  · cases h with
    | cons h1 h2 =>
      cases h2
      obtain ⟨b, rfl, hb⟩ := dd_pair h1
      exact ⟨[(b, [.inr _, .inl _])], rfl, fun q hq => by rw [List.mem_singleton.mp hq]; exact hb, fun q hq => by rw [List.mem_singleton.mp hq]; exact ⟨_, _, rfl⟩, by simp, rfl⟩
  · cases h with
    | cons h1 h2 =>
      cases h2 with
      | cons h2 h3 =>
        cases h3
        obtain ⟨b, rfl, hb⟩ := dd_pair h1
        obtain ⟨c, rfl, hc⟩ := dd_pair h2
        refine ⟨[(b, [.inr _, .inl _]), (c, [.inr _, .inl _])], rfl, fun q hq => ?_, fun q hq => ?_, by simp, rfl⟩
        · rcases List.mem_cons.mp hq with rfl | hq
          · exact hb
          · rw [List.mem_singleton.mp hq]; exact hc
        · rcases List.mem_cons.mp hq with rfl | hq
          · exact ⟨_, _, rfl⟩
          · rw [List.mem_singleton.mp hq]; exact ⟨_, _, rfl⟩
  · cases e
theorem kd_inj {x y : Str} {i j : Int} (h : ([.inr x, .inl i] : List Key) = [.inr y, .inl j]) : x = y ∧ i = j := by
  injection h with h1 h2
  injection h2 with h2 _
  exact ⟨Sum.inr.inj h1, Sum.inl.inj h2⟩
/-- the sorted data, whatever the set's order -/
theorem sort_data {ks L L1 : List (Addr × List Key)} {z : List D} (hp : Prs ks) (e : sortSetL (ks.map fun q => kD q.2) = some z) (g : GotM ks ks.length L) (nd : (L.map (·.2)).Nodup) (pm : L1.Perm L) :
    (L1.mergeSort (PySem.W.dataLe false fun q => kD q.2)).map (fun q => kD q.2) = z ∧ ∀ q ∈ L1, q ∈ ks := by
  have gs : ∀ q ∈ L1, q ∈ ks := fun q hq => by
    have := g.sub q (pm.mem_iff.mp hq)
    rwa [List.take_length] at this
  have ga : ∀ q ∈ ks, q.2 ∈ L1.map (·.2) := fun q hq => (pm.map (·.2)).mem_iff.mpr (g.all q (by rw [List.take_length]; exact hq))
  have nd1 : (L1.map (·.2)).Nodup := (pm.map (·.2)).nodup_iff.mpr nd
  refine ⟨?_, gs⟩
  have gl : L1.length ≤ ks.length := by rw [pm.length_eq]; exact g.len
  match ks, L1, hp, e, gs, ga, nd1, gl with
  | [], [], _, e, _, _, _, _ =>
    rw [List.mergeSort_nil]
    exact Option.some.inj e
  | [q], [], _, e, _, ga, _, _ => exact absurd (ga q List.mem_cons_self) (by simp)
  | [q], [r], hp, e, gs, _, _, _ =>
    have hr : r = q := List.mem_singleton.mp (gs r List.mem_cons_self)
    subst hr
    obtain ⟨x, i, ex⟩ := hp r List.mem_cons_self
    rw [List.mergeSort_singleton]
    simp only [List.map_cons, List.map_nil, ex, kD, kd1] at e ⊢
    exact Option.some.inj e
  | [q1, q2], [], _, e, _, ga, _, _ => exact absurd (ga q1 List.mem_cons_self) (by simp)
  | [q1, q2], [r], hp, e, gs, ga, _, _ =>
    obtain ⟨x, i, e1⟩ := hp q1 List.mem_cons_self
    obtain ⟨y, j, e2⟩ := hp q2 (List.mem_cons_of_mem _ List.mem_cons_self)
    have k1 : q1.2 = r.2 := List.mem_singleton.mp (ga q1 List.mem_cons_self)
    have k2 : q2.2 = r.2 := List.mem_singleton.mp (ga q2 (List.mem_cons_of_mem _ List.mem_cons_self))
    have kk := kd_inj (e1.symm.trans (k1.trans (k2.symm.trans e2)))
    rw [List.mergeSort_singleton]
    simp only [List.map_cons, List.map_nil, e1, e2, kD, kd1, sortSetL, if_pos kk] at e
    simp only [List.map_cons, List.map_nil, ← k1, e1, kD, kd1]
    exact Option.some.inj e
  | [q1, q2], [r1, r2], hp, e, gs, ga, nd1, _ =>
    obtain ⟨x, i, e1⟩ := hp q1 List.mem_cons_self
    obtain ⟨y, j, e2⟩ := hp q2 (List.mem_cons_of_mem _ List.mem_cons_self)
    have ne : r1.2 ≠ r2.2 := fun z => by
      rw [List.map_cons, List.map_cons, List.nodup_cons] at nd1
      exact nd1.1 (by rw [z]; exact List.mem_cons_self)
    have m1 := gs r1 List.mem_cons_self
    have m2 := gs r2 (List.mem_cons_of_mem _ List.mem_cons_self)
    have nk : ¬ (x = y ∧ i = j) := fun z => by
      have same : q1.2 = q2.2 := by rw [e1, e2, z.1, z.2]
      have a1 : r1.2 = q1.2 := by
        rcases List.mem_cons.mp m1 with h | h
        · rw [h]
        · rw [List.mem_singleton.mp h, same]
      have a2 : r2.2 = q1.2 := by
        rcases List.mem_cons.mp m2 with h | h
        · rw [h]
        · rw [List.mem_singleton.mp h, same]
      exact ne (a1.trans a2.symm)
    have hz : z = if pLt x i y j = true then [kD q1.2, kD q2.2] else [kD q2.2, kD q1.2] := by
      simp only [List.map_cons, List.map_nil, e1, e2, kD, kd1, sortSetL, if_neg nk] at e
      rw [← Option.some.inj e, e1, e2]
      rfl
    have le12 : PySem.W.dataLe false (fun q : Addr × List Key => kD q.2) q1 q2 = !pLt y j x i := by
      rw [PySem.W.dataLe_eq]
      show (!PySem.W.dataLt (kD q2.2) (kD q1.2)) = _
      rw [e1, e2]
      exact congrArg not (pLt_dataLt y j x i)
    have le21 : PySem.W.dataLe false (fun q : Addr × List Key => kD q.2) q2 q1 = !pLt x i y j := by
      rw [PySem.W.dataLe_eq]
      show (!PySem.W.dataLt (kD q1.2) (kD q2.2)) = _
      rw [e1, e2]
      exact congrArg not (pLt_dataLt x i y j)
    have cs := pLt_cases nk
    rw [ms2]
    rcases List.mem_cons.mp m1 with h1 | h1
    · have h2 : r2 = q2 := by
        rcases List.mem_cons.mp m2 with h | h
        · exact absurd (by rw [h1, h]) ne
        · exact List.mem_singleton.mp h
      rw [h1, h2, le12, hz, cs]
      cases pLt x i y j <;> rfl
    · have h1 := List.mem_singleton.mp h1
      have h2 : r2 = q1 := by
        rcases List.mem_cons.mp m2 with h | h
        · exact h
        · exact absurd (by rw [h1, List.mem_singleton.mp h]) ne
      rw [h1, h2, le21, hz]
      cases pLt x i y j <;> rfl
  | [], _ :: _, _, _, gs, _, _, _ => exact absurd (gs _ List.mem_cons_self) (by simp)
  | [_], _ :: _ :: _, _, _, _, _, _, gl => simp at gl
  | [_, _], _ :: _ :: _ :: _, _, _, _, _, _, gl => simp at gl
  | _ :: _ :: _ :: _, _, _, e, _, _, _, _ => simp [sortSetL] at e
section
variable {X : Cx} {E : XK} {p : Option PQ} {e : Expr} {f : EM} {pos q pos2 q2 : Pos}
theorem pd_sortSet (hc : X.calm = true) (hu : X.A.units + 64 < cLine) (hm : X.mg "sorted" = none) (hm2 : X.mg "set" = none) (h1 : PED X p E e f) (hg : Gl X "sorted" := by rfl) (hg2 : Gl X "set" := by rfl)
    (he : starEach [e] X.env = [(false, eval e X.env)] := by rfl) (he2 : starEach [.Call (.Name "set" q2) [e] [] pos2] X.env = [(false, eval (.Call (.Name "set" q2) [e] [] pos2) X.env)] := by rfl) : PED X p E (.Call (.Name "sorted" q) [.Call (.Name "set" q2) [e] [] pos2] [] pos) (eUn sortSetD f) :=
  pe_imp (pe_callB (cr_sortM hc hu) hg hm (by decide +kernel) (pa_cons (pe_callTy (cr_setM hc hu) hg2 hm2 (by decide +kernel) (pa_cons h1 pa_nil he) (by decide) (by decide) he rfl) pa_nil he2) (by decide) (by decide) he2 rfl) fun σ H Q ⟨F, ρ, s, pre, post⟩ => ⟨F, ρ, s, pre, Post.bind post fun d1 s1 F1 x H1 e1 x1 r1 q1 post1 => by
    obtain ⟨z, ez, post2⟩ := ofO_post post1
    have k := post_end post2 r1
    unfold sortSetD at ez
    split at ez
    · rename_i ds hds
      have hds' : d1 = .list ds := hds
      subst hds'
      cases hz : sortSetL ds with
      | none => rw [hz] at ez; cases ez
      | some zs =>
        rw [hz] at ez
        cases ez
        cases q1 with
        | @lst l vs ds h2 h3 =>
          obtain ⟨ks, rfl, k2, k3, k4, rfl⟩ := sortL_ks h3 hz
          refine ⟨l, ks, rfl, ex_l x1.fh h2, fun q hq => ex_t x1.fh (k2 q hq), k4, fun a L ha g nd => ?_⟩
          have xa : Ext X.gc none F1 H1 F1 (upd H1 a (SetMO X.prog X.w a L)) := Ext.mine x1.fh ha
          refine ⟨a, L, rfl, upd_same, fun q hq => ?_, fun q hq => ?_, fun L1 b pm hb => ?_⟩
          · have := g.sub q hq
            rw [List.take_length] at this
            exact ex_t xa.fh (k2 q this)
          · have := g.sub q hq
            rw [List.take_length] at this
            exact k3 q this
          · obtain ⟨g1, g2⟩ := sort_data k3 hz g nd pm
            have xb := Ext.new (G := X.gc) (q := none) (o := .lst ((L1.mergeSort (PySem.W.dataLe false fun q => kD q.2)).map fun q => V.ref q.1)) xa.fh hb
            refine k _ _ _ (xa.trans xb) (.lst (SqL.of upd_same) ?_)
            rw [← g1]
            have gen : ∀ M : List (Addr × List Key), (∀ q ∈ M, q ∈ ks) → DDs X.gc (upd F1 b (.lst ((L1.mergeSort (PySem.W.dataLe false fun q => kD q.2)).map fun q => V.ref q.1))) (M.map fun q => V.ref q.1) (M.map fun q => kD q.2) := fun M => by
              induction M with
              | nil => exact fun _ => .nil
              | cons q M ih =>
                intro hm
                obtain ⟨x, i, ex⟩ := k3 q (hm q List.mem_cons_self)
                have sq := k2 q (hm q List.mem_cons_self)
                rw [ex] at sq
                refine .cons ?_ (ih fun r hr => hm r (List.mem_cons_of_mem _ hr))
                show DD X.gc _ (V.ref q.1) (kD q.2)
                rw [ex]
                exact .tup (ex_t xb.ff sq) (.cons (.str x) (.cons (.int i) .nil))
            exact gen _ fun q hq => g2 q ((List.mergeSort_perm L1 _).mem_iff.mp hq)
    · cases ez⟩
/-! ### t < u of pairs -/
def ltPD : D → D → Option D
  | .tuple [.str x, .int i], .tuple [.str y, .int j] => some (.bool (pLt x i y j))
  | _, _ => none
def rPlt (K : PySem.W.Frag) : R2 := fun a b H Q => ∃ l m x i y j, a = .ref l ∧ b = .ref m ∧ SqT K H l [.str x, .int i] ∧ SqT K H m [.str y, .int j] ∧ Q (.bl (pLt x i y j)) H
theorem beq_dec {α : Type} [BEq α] [LawfulBEq α] [DecidableEq α] (x y : α) : (x == y) = decide (x = y) := by
  by_cases h : x = y
  · subst h; simp
  · simp [h]
theorem or_pLt (hu : X.A.units + 64 < cLine) : OpR X (compareOp .Lt) (rPlt X.K) := fun pins s σ H a b v u Q I ra rb ⟨l, m, x, i, y, j, ea, eb, hl, hm, q⟩ => by
  subst ea eb
  obtain rfl : v = Value.ref l := ra
  obtain rfl : u = Value.ref m := rb
  obtain ⟨its, r1, t1, _⟩ := I.tuple hl
  obtain ⟨jts, r2, t2, _⟩ := I.tuple hm
  cases r1 with
  | cons a1 b1 =>
    cases b1 with
    | cons a2 b2 =>
      cases b2
      cases r2 with
      | cons c1 d1 =>
        cases d1 with
        | cons c2 d2 =>
          cases d2
          obtain ⟨tx, rfl⟩ := a1
          obtain ⟨ti, rfl⟩ := a2
          obtain ⟨ty, rfl⟩ := c1
          obtain ⟨tj, rfl⟩ := c2
          have key := Ob.RcOp.tuples_lt (A := X.A) (s := s) (e := fun n => if n = 0 then decide (x = y) else decide (i = j)) (r := fun n => if n = 0 then decide (x.cps.toList < y.cps.toList) else decide (i < j)) t1 t2 (by omega)
            (fun n h1 h2 => by
              match n, h1, h2 with
              | 0, _, _ => exact (SeqAt.EqAt.str_str x tx y ty).cast (by simp only [if_true]; exact beq_dec x y)
              | 1, _, _ => exact (SeqAt.EqAt.int_int i ti j tj).cast (by simp only [Nat.one_ne_zero, if_false]; exact beq_dec i j)
              | n + 2, h1, _ => simp at h1; omega)
            (fun n h1 h2 he => by
              match n, h1, h2 with
              | 0, _, _ => exact fun _ _ _ _ h => lt_str h
              | 1, _, _ => exact Ob.RcOp.lt_int i j ti tj
              | n + 2, h1, _ => simp at h1; omega)
          refine key X.prog X.w X.xe _ ⟨.bl (pLt x i y j), H, I, ?_, q⟩
          show Value.bool _ = Value.bool _
          congr 1
          unfold pLt
          by_cases e1 : x = y
          · by_cases e2 : i = j
            · subst e1 e2; simp [Ob.lexAt]
            · subst e1; simp [Ob.lexAt, e2]
          · simp [Ob.lexAt, e1]
theorem od_pLt {G : GC} : OpD G (rPlt G.K) ltPD := fun F H x y dx dy z Q e hx hy h k => by
  unfold ltPD at h
  split at h
  · cases h
    obtain ⟨b, rfl, hb⟩ := dd_pair hx
    obtain ⟨c, rfl, hc⟩ := dd_pair hy
    exact ⟨b, c, _, _, _, _, rfl, rfl, ex_t e hb, ex_t e hc, stays e k (.bl _)⟩
  · cases h
end
end DL
end

section
set_option Elab.async false
set_option linter.all false
set_option maxRecDepth 100000
set_option maxHeartbeats 4000000
/-! The data layer, part 19: several names at once by a tuple. -/
namespace DL
open PySem PySem.Spec PyProof.Rows L2
def gNames : List Nat → TGs
  | [] => gNil
  | i :: is => gCons (gName i) (gNames is)
theorem names_set : ∀ {js : List Nat} {vs : List V} {σ : L2.St} {H : Hp} {Q : L2.St → Hp → Prop}, vs.length = js.length → Q (setV js vs σ) H → gNames js vs σ H Q
  | [], [], _, _, _, _, q => ⟨rfl, q⟩
  | _ :: js, v :: vs, _, _, _, e, q => ⟨v, vs, rfl, names_set (by simpa using e) q⟩
section
variable {X : Cx} {p : Option PQ} {E : XK} {F0 H0 : Hp}
theorem psd_parN {es ts : List Expr} {js : List Nat} {f : IM} {ms : List Nat} {k1 k2 : Nat} {pt pt2 pos : Pos} (hp : ∀ a, p = some (.sp a) → H0 a ≠ none) (hc : X.calm = true) (hsz : small js.length = true) (ha : PA X es (tAI X.gc p E f)) (hg : PGs X ts (gNames js))
    (hn : (assignEach ts X.env).length = js.length := by rfl) (hst : (assignEach ts X.env).findIdx? (·.1) = none := by rfl)
    (hs : swapsWithSole [.Tuple ts k1 pt] (.Tuple es k2 pt2) pos.line X.env = pure false := by rfl) (hw : swappedStores [.Tuple ts k1 pt] (.Tuple es k2 pt2) X.env = pure none := by rfl) (h1 : (assignEach [.Tuple ts k1 pt] X.env).map (·.2) = [assign (.Tuple ts k1 pt) X.env] := by rfl) :
    PSD X p E F0 H0 (.Assign [.Tuple ts k1 pt] (.Tuple es k2 pt2) pos) (gPar ms f js) :=
  psd_parT hp rfl hsz ha (pg_tup hc hg hn hst) (fun _ _ _ _ e q => names_set e q) hs hw h1
end
end DL
end

section
set_option Elab.async false
set_option linter.all false
set_option maxRecDepth 100000
set_option maxHeartbeats 4000000
/-! The data layer, part 20: a def that returns a new list of its own; a block that holds such a list. -/
namespace DL
open PySem PySem.Spec PyProof.Rows L2
section
variable {X : Cx} {E : XK} {F0 H0 : Hp}
def PostN (X : Cx) (E : XK) (F0 H0 : Hp) (r : Fl) (D : Ends) : Prop := match r with
  | .rt (.list ds) _ => ∀ F q vs H, Ext X.gc none F0 H0 F H → F q = none → H0 q = none → H q = some (.lst vs) → DDs X.gc (fun _ => none) vs ds → D.rt (.ref q) H
  | .ex e => ∀ F H, Ext X.gc none F0 H0 F H → ExW X.gc E e F H
  | _ => False
def tN (X : Cx) (E : XK) (F0 H0 : Hp) (g : SM) : TS := fun D σ H => ∃ F ρ s, St7 X none F0 H0 F H σ ρ s ∧ PostN X E F0 H0 (g ρ s) D
def gSeqN (a b : SM) : SM := fun ρ s => match a ρ s with
  | .nx ρ' s' => b ρ' s'
  | .ex e => .ex e
  | _ => .un
theorem psn_cons {st : Stmt} {rest : List Stmt} {g k : SM} (h1 : PSD X none E F0 H0 st g) (h2 : PSs X rest (tN X E F0 H0 k)) : PSs X (st :: rest) (tN X E F0 H0 (gSeqN g k)) :=
  pss_imp (pss_cons h1 h2) fun D σ H ⟨F, ρ, s, st, q⟩ => by
    refine ⟨F, ρ, s, st, ?_⟩
    unfold gSeqN at q
    cases hg : g ρ s with
    | nx ρ' s' =>
      rw [hg] at q
      exact fun F' σ' H' e st' => ⟨F', ρ', s', st', q⟩
    | ex e => rw [hg] at q; exact fun F' H' _ x => q F' H' x
    | rt d s' => rw [hg] at q; exact q.elim
    | bk ρ s' => rw [hg] at q; exact q.elim
    | ct ρ s' => rw [hg] at q; exact q.elim
    | un => rw [hg] at q; exact q.elim
def gRetL (f : AM) : SM := fun ρ s => exprS (f (vw (fz [] ρ)) s) fun ds s' => if small ds.length && ds.all flat then .rt (.list ds) s' else .un
theorem dds_flat {G : GC} {F F' : Hp} : ∀ {vs : List V} {ds : List D}, DDs G F vs ds → ds.all flat = true → DDs G F' vs ds
  | _, _, .nil, _ => .nil
  | _, _, .cons h t, q => by
    rw [List.all_cons, Bool.and_eq_true] at q
    exact .cons (flat_dd h q.1) (dds_flat t q.2)
theorem psn_ret {es : List Expr} {f : AM} {pos pos' : Pos} (h : PAD X none E es f) : PSs X [.Return (some (.List es pos')) pos] (tN X E F0 H0 (gRetL f)) :=
  pss_imp (pss_one (ps_ret (pe_lst h))) fun D σ H ⟨F, ρ, s, st, q⟩ => by
    have q0 : PostN X E F0 H0 (exprS (f (vw (fz [] ρ)) s) fun ds s' => if small ds.length && ds.all flat then .rt (.list ds) s' else .un) D := q
    obtain ⟨e1, e2, e3⟩ := freeze st.ext st.rl []
    refine ⟨fzF F H σ ρ [], vw (fz [] ρ), s, ⟨e1.fh, st.sr, vw_rel e3⟩, ?_⟩
    cases hf : f (vw (fz [] ρ)) s with
    | un => rw [hf] at q0; exact q0.elim
    | ex e =>
      rw [hf] at q0
      have q' : ∀ F H, Ext X.gc none F0 H0 F H → ExW X.gc E e F H := q0
      exact fun F' H' x => q' F' H' (e1.trans x)
    | ok z =>
      rw [hf] at q0
      intro F2 vs H2 x r hv
      have q' : PostN X E F0 H0 (if (small z.1.length && z.1.all flat) = true then .rt (.list z.1) z.2 else .un) D := q0
      cases hz : (small z.1.length && z.1.all flat) with
      | false => rw [hz, if_neg Bool.false_ne_true] at q'; exact q'.elim
      | true =>
        rw [hz, if_pos rfl] at q'
        obtain ⟨z1, z2⟩ := band hz
        refine ⟨Nat.le_of_lt (by rw [DDs.len hv]; exact small_line z1), fun a ha => ?_⟩
        have x2 : Ext X.gc none F0 H0 F2 H2 := e1.trans x
        have hF : F2 a = none := by
          cases w : F2 a with
          | none => rfl
          | some o => rw [x2.fh a o w] at ha; cases ha
        have hH0 : H0 a = none := by
          cases w : H0 a with
          | none => rfl
          | some o => exact absurd ha (x2.dom a (by rw [w]; simp))
        exact q' F2 a vs _ (x2.trans (Ext.mine x2.fh ha)) hF hH0 upd_same (dds_flat hv z2)
end
/-- the promise of a def that returns a new list of flat data -/
def spN (G : GC) (n : Nat) (m : List D → R D) : Sp := fun vs H Q E => ∃ F ds, Ex F H ∧ TbF G F H ∧ vs.length = n ∧ DDs G F vs ds ∧ match m ds with
  | .ok (.list zs) => ∀ F' q us H', Ext G none F H F' H' → F' q = none → H q = none → H' q = some (.lst us) → DDs G (fun _ => none) us zs → Q (.ref q) H'
  | .ex e => ∀ F' H', Ext G none F H F' H' → ExW G E e F' H'
  | _ => False
structure FnN (G : GC) (k : Nat) (x : Str) (n : Nat) (m : List D → R D) : Prop where
  ex : ∃ fd ps, FnOk G.P G.w G.K G.mg G.base (L2N.CX G.P G.w) k (He.ga G.K x) fd ps (spN G n m) ∧ Binds G.K fd ps []
  gl : G.mg x = some (.ref (He.ga G.K x))
  kp : PySem.W.keepIn G.K (.ref (He.ga G.K x)) = true
theorem def_okN {G : GC} {x : Str} {st : Stmt} {N ps : List Str} {k n : Nat} {g : SM} (FD0 : DefF G x st) (S : FnScope N ps (defScope st)) (hn : ps.length = n)
    (hb : ∀ (kV doc pm : Value) (an : Option Addr) (cdv ct : Value) (us : List Value), us.length = ps.length → bindArgs (PySem.W.fnOf x x (defArgs st) (defBody st) (defScope st) .none kV doc pm an cdv ct) ⟨us, []⟩ = pure (ps.zip us))
    (der : ∀ (cdv : Value) (A : Around) (outer : List PySem.Env) (s : Shared) (H F0 : Hp) (E : XK), cdv = .ref (He.codeOf G.K (x, none)) → Room k (A.deeper (envOfC x (defScope st) s.heap.objs.size (He.ga G.K x) cdv)) →
      Passes (L2N.CX G.P G.w) (cxOf (L2N.CX G.P G.w) G.P G.w G.K G.mg G.base N x (defScope st) (He.ga G.K x) cdv A outer s H E) E →
      PassesOwn (model G.P G.w) (A.deeper (envOfC x (defScope st) s.heap.objs.size (He.ga G.K x) cdv)) (envOfC x (defScope st) s.heap.objs.size (He.ga G.K x) cdv) (cxOf (L2N.CX G.P G.w) G.P G.w G.K G.mg G.base N x (defScope st) (He.ga G.K x) cdv A outer s H E).xe →
      PSs (cxOf (L2N.CX G.P G.w) G.P G.w G.K G.mg G.base N x (defScope st) (He.ga G.K x) cdv A outer s H E) (defBody st) (tN (cxOf (L2N.CX G.P G.w) G.P G.w G.K G.mg G.base N x (defScope st) (He.ga G.K x) cdv A outer s H E) E F0 H g)) :
    FnN G (k + 1) x n (runF g N.length) := by
  obtain ⟨fd, FD⟩ := FD0.ex
  refine ⟨⟨fd, ps, funD_okC FD S (fun vs H Q E h => ?_) (fun cdv A outer s H vs Q E ecd hr h => ?_), FD.bindsN hb⟩, FD0.gl, FD.kp⟩
  · obtain ⟨F0, ds, h1, ht, h2, h3, h4⟩ := h
    rw [h2, hn]
  · obtain ⟨F0, ds, h1, ht, h2, h3, h4⟩ := h
    refine ⟨_, der cdv A outer s H F0 E ecd hr (L2N.passes_call (L2N.takes_of (E := E) rfl rfl rfl rfl) fun _ _ _ _ h => h) (passes_of rfl), F0, ds.map L.d ++ List.replicate (N.length - ds.length) L.un, [], ⟨Ext.refl h1, ⟨ht, rfl⟩, startL h3 N⟩, ?_⟩
    unfold runF at h4
    show PostN _ E F0 H (g (ds.map L.d ++ List.replicate (N.length - ds.length) L.un) []) _
    cases hg : g (ds.map L.d ++ List.replicate (N.length - ds.length) L.un) [] with
    | nx ρ s' => rw [hg] at h4; exact h4.elim
    | rt d s' =>
      rw [hg] at h4
      cases d with
      | list zs => exact h4
      | _ => exact h4.elim
    | bk ρ s' => rw [hg] at h4; exact h4.elim
    | ct ρ s' => rw [hg] at h4; exact h4.elim
    | ex e => rw [hg] at h4; exact h4
    | un => rw [hg] at h4; exact h4.elim
/-! ### a block that holds such a list -/
def L.blank : L → Bool
  | .un => true
  | _ => false
/-- some slots are given up -/
def Bl (ρ ρ' : List L) : Prop := ρ'.length = ρ.length ∧ ∀ (i : Nat) (l : L), ρ'[i]? = some l → l = L.un ∨ ∃ d, l = L.d d ∧ ρ[i]? = some (L.d d)
def Fl.le : Fl → Fl → Prop
  | .nx ρ _, .nx ρ' s' => Bl ρ ρ' ∧ s' = []
  | .bk ρ _, .bk ρ' s' => Bl ρ ρ' ∧ s' = []
  | .ct ρ _, .ct ρ' s' => Bl ρ ρ' ∧ s' = []
  | .rt d _, .rt d' s' => d = d' ∧ s' = []
  | .ex e, .ex e' => e = e'
  | _, _ => False
def noOwn (ρ : List L) : Bool := ρ.all fun l => match l with
  | .own _ => false
  | _ => true
open Classical in
/-- x = f(..), a new list; then a block by it that comes to k -/
noncomputable def gSpool (m : List D → R D) (h : AM) (j : Nat) (gr : Addr → SM) (k : SM) : SM := fun ρ s => exprS (h (vw (fz [] ρ)) s) fun ds _ => match m ds with
  | .ok (.list zs) => if noOwn ρ = true ∧ ∀ q : Addr, Fl.le (gr q (ρ.set j (.d (opq q))) zs) (k ρ zs) then k ρ zs else .un
  | .ex e => .ex e
  | _ => .un
theorem Ext.off {G : GC} {F0 H0 F H F2 H2 : Hp} {q : Addr} (a : Ext G none F0 H0 F H) (h : H0 q = none) (b : Ext G (some (.sp q)) F H F2 H2) : Ext G none F0 H0 F2 H2 :=
  ⟨a.ff.trans b.ff, b.fh, fun x hx => (b.own x (a.dom x hx)).trans (a.own x hx), fun x o _ hx w => b.st x o (fun z => by cases z; rw [h] at hx; cases hx) (a.st x o (by simp) hx w) w, fun x hx => b.dom x (a.dom x hx), fun t => b.tb (a.tb t)⟩
theorem noOwn_at {ρ : List L} (h : noOwn ρ = true) {i : Nat} {c : Cell} : ρ[i]? ≠ some (.own c) := fun z => by
  have := List.all_eq_true.mp h _ (List.mem_of_getElem? z)
  cases this
theorem Bl.rel {G : GC} {F H H0 H1 : Hp} {σ : L2.St} {ρ ρ' : List L} (b : Bl ρ ρ') (R : RelL G F H H1 σ ρ) : RelL G F H H0 σ ρ' := by
  refine ⟨R.len.trans b.1.symm, fun i l hl => ?_, fun i j a hi _ => ?_⟩
  · rcases b.2 i l hl with rfl | ⟨d, rfl, hd⟩
    · trivial
    · exact R.at_ i _ hd
  · obtain ⟨c, h1, _⟩ := oad_own hi
    rcases b.2 i _ h1 with h | ⟨d, h, _⟩ <;> cases h
section
variable {X : Cx} {E : XK} {F0 H0 F H : Hp} {σ : L2.St}
theorem PostS.off {Fb : Hp} {q : Addr} {r r' : Fl} {D : Ends} (a : Ext X.gc none F0 H0 F H) (eb : Ex Fb F) (h : H0 q = none) (hl : Fl.le r r') (p : PostS X none E F0 H0 Fb r' D) : PostS X (some (.sp q)) E F H F r D := by
  cases r <;> cases r' <;> try exact hl.elim
  · obtain ⟨b, rfl⟩ := hl
    exact fun F2 σ2 H2 e2 st => p F2 σ2 H2 (eb.trans e2) ⟨a.off h st.ext, ⟨st.sr.1, rfl⟩, b.rel st.rl⟩
  · obtain ⟨rfl, rfl⟩ := hl
    exact fun F2 v H2 x r hv => p F2 v H2 (a.off h x) ⟨r.1, rfl⟩ hv
  · obtain ⟨b, rfl⟩ := hl
    exact fun F2 σ2 H2 e2 st => p F2 σ2 H2 (eb.trans e2) ⟨a.off h st.ext, ⟨st.sr.1, rfl⟩, b.rel st.rl⟩
  · obtain ⟨b, rfl⟩ := hl
    exact fun F2 σ2 H2 e2 st => p F2 σ2 H2 (eb.trans e2) ⟨a.off h st.ext, ⟨st.sr.1, rfl⟩, b.rel st.rl⟩
  · have hl' : _ = _ := hl
    subst hl'
    exact fun F2 H2 e2 x => p F2 H2 (eb.trans e2) (a.off h x)
theorem psd_spool {x : Str} {q pos pos' : Pos} {e tg : Expr} {es : List Expr} {body : List Stmt} {i k n j : Nat} {m : List D → R D} {h : AM} {gr : Addr → SM} {kk : SM} (Fn : FnN X.gc k x n m) (hr : Room i X.A) (hk : k ≤ i) (hx : Passes (L2N.CX X.prog X.w) X E) (h1 : PAD X none E (e :: es) h) (hl : ∀ ρ s ds s', h ρ s = .ok (ds, s') → ds.length = n)
    (htg : PG X tg (gName j)) (rest : ∀ (q : Addr) (F0' H0' : Hp), (∀ b, some (PQ.sp q) = some (.sp b) → H0' b ≠ none) → PSsD X (some (.sp q)) E F0' H0' body (gr q))
    (hg : Gl X x := by rfl) (hdb : (x == ("__debug__" : Str)) = false := by decide) (he : starEach (e :: es) X.env = (false, eval e X.env) :: starEach es X.env := by rfl) (hpl : (backTo pos' (starEach es X.env)).any (·.1) = false := by rfl)
    (hs : swapsWithSole [tg] (.Call (.Name x q) (e :: es) [] pos') pos.line X.env = pure false := by rfl) (hw : swappedStores [tg] (.Call (.Name x q) (e :: es) [] pos') X.env = pure none := by rfl) (ha : (assignEach [tg] X.env).map (·.2) = [assign tg X.env] := by rfl) :
    PSsD X none E F0 H0 (.Assign [tg] (.Call (.Name x q) (e :: es) [] pos') pos :: body) (gSpool m h j gr kk) := by
  obtain ⟨fd, ps, FO, hb⟩ := Fn.ex
  let tb : TS := fun D σ H => ∃ (q : Addr) (F0' H0' : Hp), (∀ b, some (PQ.sp q) = some (.sp b) → H0' b ≠ none) ∧ tS X (some (.sp q)) E F0' H0' (gr q) D σ H
  have hrest : PSs X body tb := ⟨fun pins s σ H D I ⟨q, F0', H0', hq, w⟩ => (rest q F0' H0' hq).run pins s σ H D I w⟩
  refine pss_imp (pss_cons (ps_asg (pe_call FO (hr.mono hk) hg Fn.gl Fn.kp hb .nil hx h1 hdb he hpl) htg hs hw ha) hrest) fun D σ H ⟨F, ρ, s, st, q0⟩ => ?_
  obtain ⟨e1, e2, e3⟩ := freeze st.ext st.rl []
  refine ⟨fzF F H σ ρ [], vw (fz [] ρ), s, ⟨e1.fh, st.sr, vw_rel e3⟩, ?_⟩
  have q1 : PostS X none E F0 H0 F (exprS (h (vw (fz [] ρ)) s) fun ds _ => match m ds with
    | .ok (.list zs) => open Classical in if noOwn ρ = true ∧ ∀ q : Addr, Fl.le (gr q (ρ.set j (.d (opq q))) zs) (kk ρ zs) then kk ρ zs else .un
    | .ex e => .ex e
    | _ => .un) D := q0
  cases hf : h (vw (fz [] ρ)) s with
  | un => rw [hf] at q1; exact q1
  | ex ee =>
    rw [hf] at q1
    have q' : ∀ F1 H, Ex F F1 → Ext X.gc none F0 H0 F1 H → ExW X.gc E ee F1 H := q1
    exact fun F' H' x => q' F' H' (e2.trans x.ff) (e1.trans x)
  | ok z =>
    rw [hf] at q1
    intro F2 vs H2 x r hv
    obtain ⟨ds, s2⟩ := z
    refine ⟨F2, ds, x.fh, r.1, by rw [List.append_nil, hv.len]; exact hl _ _ _ _ hf, by rw [List.append_nil]; exact hv, ?_⟩
    simp only [exprS_ok] at q1
    cases hm : m ds with
    | un => rw [hm] at q1; exact q1
    | ex ee =>
      rw [hm] at q1
      exact fun F' H' x' => q1 F' H' ((e2.trans x.ff).trans x'.ff) ((e1.trans x).trans x')
    | ok d =>
      rw [hm] at q1
      cases d with
      | list zs =>
        intro F3 q' us H3 x3 g1 g2 g3 g4
        have q2 : PostS X none E F0 H0 F (open Classical in if noOwn ρ = true ∧ ∀ q : Addr, Fl.le (gr q (ρ.set j (.d (opq q))) zs) (kk ρ zs) then kk ρ zs else .un) D := q1
        by_cases hc : noOwn ρ = true ∧ ∀ q : Addr, Fl.le (gr q (ρ.set j (.d (opq q))) zs) (kk ρ zs)
        · rw [if_pos hc] at q2
          have x03 : Ext X.gc none F0 H0 F3 H3 := (e1.trans x).trans x3
          have hq0 : H0 q' = none := by
            cases w : H0 q' with
            | none => rfl
            | some o => exact absurd g2 ((e1.trans x).dom q' (by rw [w]; simp))
          have ef : Ex F F3 := (e2.trans x.ff).trans x3.ff
          refine ⟨q', F3, H3, fun b hb => by cases hb; rw [g3]; simp, F3, ρ.set j (.d (opq q')), zs, ⟨Ext.refl x3.fh, ⟨r.1.ext x3, g1, us, g3, g4⟩, ?_⟩, PostS.off x03 ef hq0 (hc.2 q') q2⟩
          have R3 : RelL X.gc F3 H3 H3 σ ρ := ⟨st.rl.len, fun i l hi => by
            have := st.rl.at_ i l hi
            cases l with
            | un => trivial
            | d y => obtain ⟨u, a1, a2⟩ := this; exact ⟨u, a1, a2.ex ef⟩
            | own c => exact absurd hi (noOwn_at hc.1), fun i j a hi _ => by
            obtain ⟨c, h1, _⟩ := oad_own hi
            exact absurd h1 (noOwn_at hc.1)⟩
          exact R3.setD j (.opq q')
        · rw [if_neg hc] at q2; exact q2.elim
      | _ => exact q1.elim
end
/-! ### the law's own def, the end -/
theorem def_okF {G : GC} {x : Str} {st : Stmt} {N ps : List Str} {k n : Nat} {g : SM} {fd : FuncData} (FD : FunD G.K x x (defArgs st) (defBody st) (defScope st) [] [] (He.ga G.K x) fd) (S : FnScope N ps (defScope st)) (hn : ps.length = n)
    (der : ∀ (cdv : Value) (A : Around) (outer : List PySem.Env) (s : Shared) (H F0 : Hp) (E : XK), cdv = .ref (He.codeOf G.K (x, none)) → Room k (A.deeper (envOfC x (defScope st) s.heap.objs.size (He.ga G.K x) cdv)) →
      Passes (L2N.CX G.P G.w) (cxOf (L2N.CX G.P G.w) G.P G.w G.K G.mg G.base N x (defScope st) (He.ga G.K x) cdv A outer s H E) E →
      PassesOwn (model G.P G.w) (A.deeper (envOfC x (defScope st) s.heap.objs.size (He.ga G.K x) cdv)) (envOfC x (defScope st) s.heap.objs.size (He.ga G.K x) cdv) (cxOf (L2N.CX G.P G.w) G.P G.w G.K G.mg G.base N x (defScope st) (He.ga G.K x) cdv A outer s H E).xe →
      PSsD (cxOf (L2N.CX G.P G.w) G.P G.w G.K G.mg G.base N x (defScope st) (He.ga G.K x) cdv A outer s H E) none E F0 H (defBody st) g) :
    FnOk G.P G.w G.K G.mg G.base (L2N.CX G.P G.w) (k + 1) (He.ga G.K x) fd ps (spD G n (runF g N.length)) := by
  refine funD_okC FD S (fun vs H Q E h => ?_) (fun cdv A outer s H vs Q E ecd hr h => ?_)
  · obtain ⟨F0, ds, h1, ht, h2, h3, h4⟩ := h
    rw [h2, hn]
  · obtain ⟨F0, ds, h1, ht, h2, h3, h4⟩ := h
    refine ⟨_, der cdv A outer s H F0 E ecd hr (L2N.passes_call (L2N.takes_of (E := E) rfl rfl rfl rfl) fun _ _ _ _ h => h) (passes_of rfl), F0, ds.map L.d ++ List.replicate (N.length - ds.length) L.un, [], ⟨Ext.refl h1, ⟨ht, rfl⟩, startL h3 N⟩, ?_⟩
    unfold runF at h4
    show PostS _ none E F0 H F0 (g (ds.map L.d ++ List.replicate (N.length - ds.length) L.un) []) _
    cases hg : g (ds.map L.d ++ List.replicate (N.length - ds.length) L.un) [] with
    | nx ρ s' => rw [hg] at h4; exact fun F σ H' _ st => h4 F .non H' st.ext .non
    | rt d s' => rw [hg] at h4; exact fun F v H' x _ hv => h4 F v H' x hv
    | bk ρ s' => rw [hg] at h4; exact h4.elim
    | ct ρ s' => rw [hg] at h4; exact h4.elim
    | ex e => rw [hg] at h4; exact fun F H' _ x => h4 F H' x
    | un => rw [hg] at h4; exact h4.elim
theorem dds_ints {G : GC} {F : Hp} : ∀ ns : List Int, DDs G F (ns.map V.int) (ns.map PyData.int)
  | [] => .nil
  | n :: ns => .cons (.int n) (dds_ints ns)
/-- H without the tables -/
def noTb (H : Hp) : Hp := fun a => match H a with
  | some (.tbl _) => none
  | o => o
theorem noTb_at {H : Hp} {a : Addr} {o : HO} (h : H a = some o) (n : nT o) : noTb H a = some o := by
  unfold noTb
  rw [h]
  cases o with
  | tbl ps => exact absurd rfl (n ps)
  | _ => rfl
theorem noTb_ex {H : Hp} : Ex (noTb H) H := fun a o h => by
  unfold noTb at h
  cases q : H a with
  | none => rw [q] at h; cases h
  | some u =>
    rw [q] at h
    cases u with
    | tbl ps => cases h
    | _ => exact h
/-- what the law's call asks, from what its mirror says -/
def spLaw (K : PySem.W.Frag) (m : List D → R D) : Sp := fun vs H Q _ => ∃ (a : Addr) (ns : List Int), vs = [.ref a] ∧ SqL K H a (ns.map V.int) ∧ (∀ q ∈ TK K, H q.1 = some (.tbl #[])) ∧ m [.list (ns.map .int)] = .ok (.bool true) ∧ ∀ H', Q (.bl true) H'
theorem spLaw_of {G : GC} {m : List D → R D} (vs : List V) (H : Hp) (Q : VK) (E : XK) (h : spLaw G.K m vs H Q E) : spD G 1 m vs H Q E := by
  obtain ⟨a, ns, rfl, hS, ht, hm, q⟩ := h
  have hS' : SqL G.K (noTb H) a (ns.map V.int) := by
    rcases hS with (h | ⟨o, h⟩) | h
    · exact .inl (.inl (noTb_at h nT_lst))
    · exact .inl (.inr ⟨o, noTb_at h fun _ z => nomatch z⟩)
    · exact .inr h
  refine ⟨noTb H, [.list (ns.map .int)], noTb_ex, ⟨fun p hp => LamX.TabS.nil (ht p hp), fun p hp => by unfold noTb; rw [ht p hp]⟩, rfl, .cons (.lst hS' (dds_ints ns)) .nil, ?_⟩
  rw [hm]
  exact fun F' v H' _ hv => by rw [hv.inv_bool]; exact q H'
/-- a def's code object and table, as the head tells them -/
structure TabH (K : PySem.W.Frag) (h : Heap) (p : Addr × Addr) : Prop where
  empty : h.get? p.2 = some { cls := .none, data := .fields #[] }
  out : K.lookup p.2 = none
  code : PySem.W.CodeHd h p.1 p.2
theorem walk_ofW {l : PySem.W.OpenLaw} {n k : Nat} {q : Program} {loose : List Str} {XP : (Str → Option Value) → Heap → Prop} {YP : World → Heap → Prop} {d : DefRec} {CX : World → CXT} {x : Str}
    (hn : l.most = some n) (hn2 : n ≤ sizeLine) (hdf : d.params.defaults = []) (hr : Room k callerA)
    (F : ∀ (w : World) (mg : Str → Option Value) (fa : Addr) (h : Heap), YP w h → h.Ns mainGlobals mg → mg d.name = some (.ref fa) →
      ∃ (K : PySem.W.Frag) (fd : FuncData) (sp : Sp) (cs : List (Addr × Addr)), K.In h ∧ (∀ p ∈ cs, TabH K h p) ∧ (∀ (s : Shared) (u : Value), BindsTo s fd ⟨[u], []⟩ [(x, u)]) ∧
        (∀ (H : Hp) (a : Addr) (ns : List Int), ns.length ≤ n → (∀ p ∈ cs, H p.2 = some (.tbl #[])) → SqL K H a (ns.map V.int) → sp [.ref a] H (fun v _ => v = .bl true) fun _ _ _ => False) ∧
        ∀ base : Heap, K.In base → base.Ns mainGlobals mg → (∀ p ∈ cs, LamX.TabB base mg p.1 p.2) → FnOk l.prog w K mg base (CX w) k fa fd [x] sp)
    (hCX : ∀ (w : World) (H : Hp) (s : Shared) (e : Value) (s' : Shared), CX w [] H s (fun _ _ _ => False) e s' → False) :
    PySem.W.WalkO q loose XP YP l.row.toRowW d [] (fun f vs => PySem.call f vs) := by
  refine Att.attach_call hn hdf fun w s₀ s₁ mg mb fa o pm cd doc a vs ns G Y ho hd hcd hmg hobj hints hlen hg => ?_
  obtain ⟨K, fd, sp, cs, KX, ht, hb, hsp, hF⟩ := F w mg fa _ Y G.T.g hmg
  exact LamX.law_callTs KX G.T.g G.T.b G.T.builtins G.T.nolimit hg (fun p hp => (ht p hp).empty) (fun p hp => (ht p hp).out) (fun p hp => (ht p hp).code) G.T.bmain hobj hints (Nat.le_trans hlen hn2) hr hF hb (fun H hH hS => hsp H a ns hlen hH hS) fun H e s' => hCX w H s₁ e s'
end DL
end

section
set_option Elab.async false
set_option linter.all false
set_option maxRecDepth 100000
set_option maxHeartbeats 4000000
/-! The data layer, part 21: things lent to a call; functions without a name. -/
namespace DL
open PySem PySem.Spec PyProof.Rows L2
/-! ### data do not look at other things -/
def Dat (a : Addr) (o : HO) : Prop := (∃ xs, o = .lst xs) ∨ (∃ xs, o = .tup xs) ∨ (∃ ob u, o = .frz ob u) ∨ ∃ es, o = dO a es
theorem rd_sm {F F' : Hp} {a : Addr} {u : HO} (e : ∀ a o, F a = some o → Dat a o → F' a = some o) (hu : Dat a u) (h : Rd F a u) : Rd F' a u := by
  rcases h with h | ⟨o, h⟩
  · exact .inl (e a _ h hu)
  · exact .inr ⟨o, e a _ h (.inr (.inr (.inl ⟨_, _, rfl⟩)))⟩
mutual
theorem dd_sm {G : GC} {F F' : Hp} (e : ∀ a o, F a = some o → Dat a o → F' a = some o) : ∀ (v : V) (d : D), DD G F v d → DD G F' v d
  | _, _, .non => .non
  | _, _, .bl b => .bl b
  | _, _, .int b => .int b
  | _, _, .str b => .str b
  | _, _, .lst s a => .lst (s.imp (rd_sm e (.inl ⟨_, rfl⟩)) id) (dds_sm e _ _ a)
  | _, _, .tup s a => .tup (s.imp (rd_sm e (.inr (.inl ⟨_, rfl⟩))) id) (dds_sm e _ _ a)
  | _, _, .dct s k a => .dct (e _ _ s (.inr (.inr (.inr ⟨_, rfl⟩)))) k (de_sm e _ _ a)
  | _, _, .opq a => .opq a
theorem dds_sm {G : GC} {F F' : Hp} (e : ∀ a o, F a = some o → Dat a o → F' a = some o) : ∀ (vs : List V) (ds : List D), DDs G F vs ds → DDs G F' vs ds
  | _, _, .nil => .nil
  | _, _, .cons h1 h2 => .cons (dd_sm e _ _ h1) (dds_sm e _ _ h2)
theorem de_sm {G : GC} {F F' : Hp} (e : ∀ a o, F a = some o → Dat a o → F' a = some o) : ∀ (es : List DictEntry) (ds : List (D × D)), DE G F es ds → DE G F' es ds
  | _, _, .nil => .nil
  | _, _, .cons a b c d f g => .cons a b (dd_sm e _ _ c) d (dd_sm e _ _ f) (de_sm e _ _ g)
end
/-! ### the very object -/
/-- the object o stands at a -/
def ObO (a : Addr) (o : Obj) : HO := .ext fun h => h.get? a = some o
theorem obO_nT {a : Addr} {o : Obj} : nT (ObO a o) := nT_ext
theorem obO_ok {P : Program} {w : World} {H : Hp} {h : Heap} {a : Addr} {o : Obj} (e : h.get? a = some o) : ObjOk P w H h a (ObO a o) := ⟨e, ⟨_, e⟩, fun _ _ q st => st _ q⟩
theorem obO_at {P : Program} {w : World} {H : Hp} {h : Heap} {a : Addr} {o : Obj} (hok : HOk P w H h) (e : H a = some (ObO a o)) : h.get? a = some o := (hok a _ e).1
/-- neither a dict nor a record nor a thing that is gone -/
def Plain (o : Obj) : Prop := (∀ es ep, o.data ≠ .dict es ep) ∧ (∀ vs, o.data ≠ .fields vs) ∧ o.isFreed = false
theorem obO_in {a : Addr} {o : Obj} (h : Plain o) : ∃ g : Heap, g.get? a = some o := by
  obtain ⟨g, e⟩ := heap_at a
  exact ⟨g.push o, by rw [← e]; exact Heap.get?_push_size _ h.2.2⟩
theorem obO_dat {a : Addr} {o : Obj} (h : Plain o) : ¬ Dat a (ObO a o) := fun z => by
  rcases z with ⟨xs, z⟩ | ⟨xs, z⟩ | ⟨ob, u, z⟩ | ⟨es, z⟩
  · unfold ObO at z; cases z
  · unfold ObO at z; cases z
  · unfold ObO at z; cases z
  · unfold ObO dO at z
    injection z with z
    obtain ⟨g, e⟩ := obO_in (a := a) h
    obtain ⟨_, o', ep, e1, _, e3⟩ := (congrFun z g).mp e
    rw [e] at e1; cases e1
    exact h.1 _ _ e3
theorem obO_code {a : Addr} {o : Obj} {q : Str} (h : Plain o) : ObO a o ≠ LamX.CodeO a q := fun z => by
  unfold ObO LamX.CodeO at z
  injection z with z
  obtain ⟨g, e⟩ := obO_in (a := a) h
  obtain ⟨oc, vs, t, e1, e2, _⟩ := (congrFun z g).mp e
  rw [e] at e1; cases e1
  exact h.2.1 _ e2
theorem code_dat {a : Addr} {q : Str} : ¬ Dat a (LamX.CodeO a q) := fun z => by
  rcases z with ⟨xs, z⟩ | ⟨xs, z⟩ | ⟨ob, u, z⟩ | ⟨es, z⟩
  · unfold LamX.CodeO at z; cases z
  · unfold LamX.CodeO at z; cases z
  · unfold LamX.CodeO at z; cases z
  · exact dO_ne q z.symm
/-! ### lent -/
abbrev Ls := Addr → Option Obj
def lend (L : Ls) (H : Hp) : Hp := fun a => match L a with
  | some o => some (ObO a o)
  | none => H a
def off (L : Ls) (H : Hp) : Hp := fun a => match L a with
  | some _ => none
  | none => H a
section
variable {L : Ls} {H H' F F' : Hp} {a : Addr} {o : Obj} {u : HO}
theorem lend_in (h : L a = some o) : lend L H a = some (ObO a o) := by unfold lend; rw [h]
theorem lend_out (h : L a = none) : lend L H a = H a := by unfold lend; rw [h]
theorem off_in (h : L a = some o) : off L H a = none := by unfold off; rw [h]
theorem off_out (h : L a = none) : off L H a = H a := by unfold off; rw [h]
theorem off_none (h : H a = none) : off L H a = none := by
  cases q : L a with
  | none => rw [off_out q]; exact h
  | some o => exact off_in q
theorem off_some (h : off L H a = some u) : L a = none ∧ H a = some u := by
  cases q : L a with
  | none => rw [off_out q] at h; exact ⟨rfl, h⟩
  | some o => rw [off_in q] at h; cases h
theorem look_out (l : ∀ a o, L a = some o → H a = some (ObO a o)) (e : H a = some u) (n : ∀ o, u ≠ ObO a o) : L a = none := by
  cases q : L a with
  | none => rfl
  | some o => rw [l a o q] at e; exact absurd (Option.some.inj e).symm (n o)
theorem look_none (l : ∀ a o, L a = some o → H a = none) (e : H a = some u) : L a = none := by
  cases q : L a with
  | none => rfl
  | some o => rw [l a o q] at e; cases e
theorem ne_own {x : Addr} (o : Obj) : HO.own x ≠ ObO a o := fun z => by unfold ObO at z; cases z
theorem ne_tup {xs : List V} (o : Obj) : HO.tup xs ≠ ObO a o := fun z => by unfold ObO at z; cases z
theorem ne_lst {xs : List V} (o : Obj) : HO.lst xs ≠ ObO a o := fun z => by unfold ObO at z; cases z
theorem ne_frz {ob : Obj} {v : HO} (o : Obj) : HO.frz ob v ≠ ObO a o := fun z => by unfold ObO at z; cases z
theorem ne_tbl {ps : Array Value} (o : Obj) : HO.tbl ps ≠ ObO a o := fun z => by unfold ObO at z; cases z
end
section
variable {P : Program} {w : World} {K : PySem.W.Frag} {mg : Str → Option Value} {base : Heap} {A : Around} {outer : List Env} {s s' : Shared} {H : Hp} {L : Ls}
theorem hok_lend {h : Heap} (ok : HOk P w H h) (l : ∀ a o, L a = some o → h.get? a = some o ∧ H a = none) : HOk P w (lend L H) h := fun a u e => by
  have ln : ∀ {b : Addr} {u : HO}, H b = some u → L b = none := fun e => look_none (fun a o q => (l a o q).2) e
  cases q : L a with
  | some o => rw [lend_in q] at e; cases e; exact obO_ok (l a o q).1
  | none =>
    rw [lend_out q] at e
    exact (ok a u e).stay (fun _ _ _ r => r) (fun b r => by rw [lend_out (ln r)]; exact r) fun b xs r => by rw [lend_out (ln r)]; exact r
theorem hok_off {h : Heap} (ok : HOk P w H h) (l : ∀ a o, L a = some o → H a = some (ObO a o)) : HOk P w (off L H) h := fun a u e => by
  obtain ⟨_, e⟩ := off_some e
  exact (ok a u e).stay (fun _ _ _ r => r) (fun b r => by rw [off_out (look_out l r ne_own)]; exact r) fun b xs r => by rw [off_out (look_out l r ne_tup)]; exact r
/-- what may be lent -/
structure LsOk (base : Heap) (fs : List Addr) (H : Hp) (h : Heap) (L : Ls) : Prop where
  get : ∀ a o, L a = some o → h.get? a = some o
  free : ∀ a o, L a = some o → H a = none
  nofr : ∀ a o, L a = some o → a ∉ fs
  nob : ∀ a o, L a = some o → base.get? a = none
theorem env0_lend (e : Env0 P w K mg base A outer s H) (l : LsOk base (frs outer) H s.heap L) : Env0 P w K mg base A outer s (lend L H) := by
  refine ⟨e.frames, e.mod, fun b o q => ⟨(e.bs b o q).1, ?_⟩, e.bsz, e.funs, fun b hb => ?_, hok_lend e.hok fun a o q => ⟨l.get a o q, l.free a o q⟩, e.bare⟩
  · cases h : L b with
    | none => rw [lend_out h]; exact (e.bs b o q).2
    | some u => rw [l.nob b u h] at q; cases q
  · cases h : L b with
    | none => rw [lend_out h]; exact e.frf b hb
    | some u => exact absurd hb (l.nofr b u h)
theorem env0_off (e : Env0 P w K mg base A outer s H) (l : ∀ a o, L a = some o → H a = some (ObO a o)) : Env0 P w K mg base A outer s (off L H) :=
  ⟨e.frames, e.mod, fun b o q => ⟨(e.bs b o q).1, off_none (e.bs b o q).2⟩, e.bsz, e.funs, fun b hb => off_none (e.frf b hb), hok_off e.hok l, e.bare⟩
/-- behind a call that things were lent to -/
theorem cr_lend {Q Q' : VK} {E E' : XK} {r : Result} (l : LsOk base (frs outer) H s.heap L) (c : CR (L2N.CX P w) outer P w (lend L H) s Q E r s')
    (kq : ∀ v H', Q v H' → (∀ a o, L a = some o → H' a = some (ObO a o)) ∧ Q' v (off L H')) (ke : ∀ cls d H', E cls d H' → (∀ a o, L a = some o → H' a = some (ObO a o)) ∧ E' cls d (off L H')) : CR (L2N.CX P w) outer P w H s Q' E' r s' := by
  have ln : ∀ {b : Addr} {u : HO}, H b = some u → L b = none := fun e => look_none l.free e
  cases r with
  | error e =>
    obtain ⟨a, B, H', cls, d, rfl, fl, hok, ub, na, os, ag, hE⟩ := (show L2N.CX P w outer (lend L H) s E e s' from c)
    obtain ⟨k1, k2⟩ := ke cls d H' hE
    refine (show L2N.CX P w outer H s E' (.ref a) s' from ⟨a, B, off L H', cls, d, rfl, fl, hok_off hok k1, ⟨fun b o e n hb => ?_, ub.slot, fun b o e n => ?_, ub.there, fun b xs e => ?_, fun b o xs e => ?_, fun b ps e => ?_⟩, off_none na, os, ag, k2⟩)
    · cases h : L b with
      | none => exact ub.keep b o e (by rw [lend_out h]; exact n) hb
      | some u => rw [l.get b u h] at e; cases e; exact obO_at hok (k1 b o h)
    · cases h : L b with
      | none => rw [off_out h]; exact ub.free b o e (by rw [lend_out h]; exact n)
      | some u => exact off_in h
    · rw [off_out (ln e)]; exact ub.tups b xs (by rw [lend_out (ln e)]; exact e)
    · rw [off_out (ln e)]; exact ub.frzs b o xs (by rw [lend_out (ln e)]; exact e)
    · rw [off_out (ln e)]; exact ub.tbls b ps (by rw [lend_out (ln e)]; exact e)
  | ok fl =>
    cases fl with
    | ret u =>
      obtain ⟨v, H', os, bare, un, hok, rv, q⟩ := (show CE outer P w (lend L H) s Q u s' from c)
      obtain ⟨k1, k2⟩ := kq v H' q
      refine (show CE outer P w H s Q' u s' from ⟨v, off L H', os, bare, ⟨fun b o e n hb hx => ?_, fun b o e n hb hx => ?_, fun b o e n hx => ?_, un.there, fun b xs e => ?_, fun b o xs e => ?_, fun b ps e => ?_⟩, hok_off hok k1, rv, k2⟩)
      · cases h : L b with
        | none => exact un.keep b o e (by rw [lend_out h]; exact n) hb hx
        | some u => rw [l.get b u h] at e; cases e; exact obO_at hok (k1 b o h)
      · cases h : L b with
        | none => exact un.slot b o e (by rw [lend_out h]; exact n) hb hx
        | some u => exact absurd hb (l.nofr b u h)
      · cases h : L b with
        | none => rw [off_out h]; exact un.free b o e (by rw [lend_out h]; exact n) hx
        | some u => exact off_in h
      · rw [off_out (ln e)]; exact un.tups b xs (by rw [lend_out (ln e)]; exact e)
      · rw [off_out (ln e)]; exact un.frzs b o xs (by rw [lend_out (ln e)]; exact e)
      · rw [off_out (ln e)]; exact un.tbls b ps (by rw [lend_out (ln e)]; exact e)
    | next => exact False.elim c
    | brk => exact False.elim c
    | cont => exact False.elim c
/-- behind a call that does not see things that are tracked here -/
theorem cr_off {Q Q' : VK} {E E' : XK} {r : Result} (e0 : Env0 P w K mg base A outer s H) (l : ∀ a o, L a = some o → H a = some (ObO a o)) (c : CR (L2N.CX P w) outer P w (off L H) s Q E r s')
    (kq : ∀ v H', Q v H' → (∀ a o, L a = some o → H' a = none) → Q' v (lend L H')) (ke : ∀ cls d H', E cls d H' → (∀ a o, L a = some o → H' a = none) → E' cls d (lend L H')) : CR (L2N.CX P w) outer P w H s Q' E' r s' := by
  have get : ∀ a o, L a = some o → s.heap.get? a = some o := fun a o q => obO_at e0.hok (l a o q)
  have nofr : ∀ a o, L a = some o → a ∉ frs outer := fun a o q hb => by have := l a o q; rw [e0.frf a hb] at this; cases this
  have nn : ∀ {b : Addr}, H b = none → L b = none := fun {b} n => by
    cases h : L b with
    | none => rfl
    | some u => rw [l b u h] at n; cases n
  cases r with
  | error e =>
    obtain ⟨a, B, H', cls, d, rfl, fl, hok, ub, na, os, ag, hE⟩ := (show L2N.CX P w outer (off L H) s E e s' from c)
    have gone : ∀ a o, L a = some o → H' a = none := fun a o q => ub.free a o (get a o q) (off_in q)
    have keep : ∀ a o, L a = some o → B.get? a = some o := fun a o q => ub.keep a o (get a o q) (off_in q) (nofr a o q)
    refine (show L2N.CX P w outer H s E' (.ref a) s' from ⟨a, B, lend L H', cls, d, rfl, fl, hok_lend hok fun a o q => ⟨keep a o q, gone a o q⟩, ⟨fun b o e n hb => ub.keep b o e (off_none n) hb, ub.slot, fun b o e n => ?_, ub.there, fun b xs e => ?_, fun b o xs e => ?_, fun b ps e => ?_⟩, ?_, os, ag, ke cls d H' hE gone⟩)
    · rw [lend_out (nn n)]; exact ub.free b o e (off_none n)
    · have h := look_out l e ne_tup; rw [lend_out h]; exact ub.tups b xs (by rw [off_out h]; exact e)
    · have h := look_out l e ne_frz; rw [lend_out h]; exact ub.frzs b o xs (by rw [off_out h]; exact e)
    · have h := look_out l e ne_tbl; rw [lend_out h]; exact ub.tbls b ps (by rw [off_out h]; exact e)
    · cases h : L a with
      | none => rw [lend_out h]; exact na
      | some o => have := keep a o h; rw [fl.2.1] at this; cases this
  | ok fl =>
    cases fl with
    | ret u =>
      obtain ⟨v, H', os, bare, un, hok, rv, q⟩ := (show CE outer P w (off L H) s Q u s' from c)
      have gone : ∀ a o, L a = some o → H' a = none := fun a o q => un.free a o (get a o q) (off_in q) (by simp)
      have keep : ∀ a o, L a = some o → s'.heap.get? a = some o := fun a o q => un.keep a o (get a o q) (off_in q) (nofr a o q) (by simp)
      refine (show CE outer P w H s Q' u s' from ⟨v, lend L H', os, bare, ⟨fun b o e n hb hx => un.keep b o e (off_none n) hb hx, fun b o e n hb hx => un.slot b o e (off_none n) hb hx, fun b o e n hx => ?_, un.there, fun b xs e => ?_, fun b o xs e => ?_, fun b ps e => ?_⟩,
        hok_lend hok fun a o q => ⟨keep a o q, gone a o q⟩, rv, kq v H' q gone⟩)
      · rw [lend_out (nn n)]; exact un.free b o e (off_none n) hx
      · have h := look_out l e ne_tup; rw [lend_out h]; exact un.tups b xs (by rw [off_out h]; exact e)
      · have h := look_out l e ne_frz; rw [lend_out h]; exact un.frzs b o xs (by rw [off_out h]; exact e)
      · have h := look_out l e ne_tbl; rw [lend_out h]; exact un.tbls b ps (by rw [off_out h]; exact e)
    | next => exact False.elim c
    | brk => exact False.elim c
    | cont => exact False.elim c
end
/-! ### what lies to the frozen part -/
section
variable {G : GC} {L : Ls} {F H F' H' : Hp}
theorem dd_off (l : ∀ a o, L a = some o → F a = some (ObO a o)) (pl : ∀ a o, L a = some o → Plain o) : ∀ a o, F a = some o → Dat a o → off L F a = some o := fun a o e d => by
  cases h : L a with
  | none => rw [off_out h]; exact e
  | some u => rw [l a u h] at e; cases e; exact absurd d (obO_dat (pl a u h))
theorem tb_off (l : ∀ a o, L a = some o → H a = some (ObO a o)) (pl : ∀ a o, L a = some o → Plain o) (t : Tb G H) : Tb G (off L H) := fun z hz => by
  obtain ⟨ps, h1, h2, h3⟩ := t z hz
  refine ⟨ps, by rw [off_out (look_out l h1 ne_tbl)]; exact h1, h2, fun pos cv hc => ?_⟩
  obtain ⟨c, e1, e2⟩ := h3 pos cv hc
  refine ⟨c, e1, ?_⟩
  cases h : L c with
  | none => rw [off_out h]; exact e2
  | some u => rw [l c u h] at e2; exact absurd (Option.some.inj e2) (obO_code (pl c u h))
theorem tb_lend (l : ∀ a o, L a = some o → H a = none) (t : Tb G H) : Tb G (lend L H) := t.ext fun b o e => by rw [lend_out (look_none l e)]; exact e
theorem ex_lend (l : ∀ a o, L a = some o → H a = none) : Ex H (lend L H) := fun b o e => by rw [lend_out (look_none l e)]; exact e
theorem ex_lend2 (e : Ex F H) : Ex (lend L F) (lend L H) := fun b o q => by
  cases h : L b with
  | none => rw [lend_out h] at q ⊢; exact e b o q
  | some u => rw [lend_in h] at q ⊢; exact q
theorem ex_off2 (e : Ex F H) : Ex (off L F) (off L H) := fun b o q => by
  obtain ⟨h, q⟩ := off_some q
  rw [off_out h]; exact e b o q
/-- from the run without the lent things to the run with them -/
theorem ext_back (l : ∀ a o, L a = some o → H a = some (ObO a o)) (lF : ∀ a o, L a = some o → F a = some (ObO a o)) (pl : ∀ a o, L a = some o → Plain o) (x : Ext G none (off L F) (off L H) F' H') (g : ∀ a o, L a = some o → H' a = none) : Ext G none F H (lend L F') (lend L H') := by
  have gF : ∀ a o, L a = some o → F' a = none := fun a o q => by
    cases h : F' a with
    | none => rfl
    | some u => have := x.fh a u h; rw [g a o q] at this; cases this
  refine ⟨fun a o e => ?_, ex_lend2 x.fh, fun a n => ?_, fun a o _ e nt => ?_, fun a n => ?_, fun t => tb_lend g (x.tb (tb_off l pl t))⟩
  · cases h : L a with
    | none => rw [lend_out h]; exact x.ff a o (by rw [off_out h]; exact e)
    | some u => rw [lF a u h] at e; rw [lend_in h]; exact e
  · cases h : L a with
    | none => rw [lend_out h]; exact (x.own a (by rw [off_out h]; exact n)).trans (off_out h)
    | some u => rw [lend_in h, lF a u h]
  · cases h : L a with
    | none => rw [lend_out h]; exact x.st a o (by simp) (by rw [off_out h]; exact e) nt
    | some u => rw [l a u h] at e; rw [lend_in h]; exact e
  · cases h : L a with
    | none => rw [lend_out h]; exact x.dom a (by rw [off_out h]; exact n)
    | some u => rw [lend_in h]; simp
end
end DL
end

section
set_option Elab.async false
set_option linter.all false
set_option maxRecDepth 100000
set_option maxHeartbeats 4000000
/-! The data layer, part 22: functions as arguments; what a function without a name does when it is called. -/
namespace DL
open PySem PySem.Spec PyProof.Rows L2
/-- what stands at f may be called: m tells what it answers; Fc: what must stand -/
structure Callable (G : GC) (Fc : Hp) (f : Addr) (k n : Nat) (m : List D → R D) : Prop where
  fn : ∃ oc od fd sl, Fc f = some (ObO f ⟨oc, od, .func fd, sl⟩)
  run : ∀ (A : Around) (outer : List PySem.Env) (s : Shared) (H : Hp) (us : List Value) (vs : List V) (F : Hp) (ds : List D) (Q : VK) (E : XK), Room k A → Env0 G.P G.w G.K G.mg G.base A outer s H → Vals vs us → Ex Fc F → Ex F H → TbF G F H → DDs G F vs ds → vs.length = n → PostF G E F H (m ds) Q →
    codeAny (model G.P G.w) A (.call (.ref f) ⟨us, []⟩) (CR (L2N.CX G.P G.w) outer G.P G.w H s Q E) s
theorem Callable.mono {G : GC} {Fc : Hp} {f : Addr} {j k n : Nat} {m : List D → R D} (c : Callable G Fc f j n m) (h : j ≤ k) : Callable G Fc f k n m :=
  ⟨c.fn, fun A outer s H us vs F ds Q E r => c.run A outer s H us vs F ds Q E (r.mono h)⟩
/-- a call of the slot i, which holds the function at f -/
def eCallF (f : Addr) (i : Nat) (m : List D → R D) (h : AM) : EM := fun ρ s => match ρ[i]? with
  | some (some d) => if isSp f d then (h ρ s).bind fun z => (m z.1).bind fun d => .ok (d, z.2) else .un
  | _ => .un
section
variable {X : Cx} {E : XK} {e : Expr} {es : List Expr} {h : AM} {pos q : Pos} {Fc : Hp} {f : Addr} {i j k n : Nat} {x : Str} {m : List D → R D}
theorem callF_slot {ρ : Rho} {s : List D} {σ : L2.St} {F H : Hp} {Q : VK} (pre : Pre X.gc (some (.fn Fc)) F H σ ρ s) (post : Post X.gc (some (.fn Fc)) E F H (eCallF f i m h ρ s) (fun F' _ v d => DD X.gc F' v d) Q) :
    σ[i]? = some (some (.ref f)) ∧ Post X.gc (some (.fn Fc)) E F H ((h ρ s).bind fun z => (m z.1).bind fun d => .ok (d, z.2)) (fun F' _ v d => DD X.gc F' v d) Q := by
  unfold eCallF at post
  cases hj : ρ[i]? with
  | none => rw [hj] at post; exact post.elim
  | some o =>
    cases o with
    | none => rw [hj] at post; exact post.elim
    | some d =>
      rw [hj] at post
      cases hq : isSp f d with
      | false => simp only [hq] at post; exact post.elim
      | true =>
        simp only [hq, if_true] at post
        obtain ⟨v, h1, h2⟩ := pre.rd i d hj
        obtain ⟨rfl, rfl⟩ := isSp_opq h2 hq
        exact ⟨h1, post⟩
theorem callF_post {F H : Hp} {d : R D} {s : List D} {Q : VK} {p : Option PQ} (post : Post X.gc p E F H (d.bind fun d => .ok (d, s)) (fun F' _ v d => DD X.gc F' v d) Q) (r : SRel X.gc p F H s) : PostF X.gc E F H d Q := by
  cases d with
  | un => exact post
  | ex e => exact fun F' H' x => post F' H' x.weak
  | ok d => exact fun F' v H' x hv => post F' v H' x.weak (r.ext x) hv
theorem fnAt_obO {H : Hp} {s : Shared} {pins : List (Addr × Obj)} {σ : L2.St} (I : Inv X pins σ H s) (c : Callable X.gc Fc f k n m) (e : Ex Fc H) : PySem.W.FnAt f s.heap := by
  obtain ⟨oc, od, fd, sl, hf⟩ := c.fn
  exact ⟨oc, od, fd, sl, obO_at I.hok (e _ _ hf)⟩
theorem run_callF {pins : List (Addr × Obj)} {σ : L2.St} {H F : Hp} {s : Shared} {Q : VK} {us : List Value} {vs : List V} {ds : List D} (c : Callable X.gc Fc f k n m) (hr : Room j X.A) (hk : k ≤ j) (hx : Passes (L2N.CX X.prog X.w) X E) (I : Inv X pins σ H s)
    (r : Vals vs us) (e1 : Ex Fc F) (e2 : Ex F H) (ht : TbF X.gc F H) (hd : DDs X.gc F vs ds) (hl : vs.length = n) (hq : PostF X.gc E F H (m ds) Q) : wpAny (model X.prog X.w) X.A (call (.ref f) us) (EP X pins σ Q) X.xe s := by
  refine wpAny_call (codeAny_mono (c.run X.A X.stack s H us vs F ds Q E (hr.mono hk) I.env0 r e1 e2 ht hd hl hq) fun r s' hq => ?_)
  cases r with
  | error e => exact hx pins σ H s e s' I hq
  | ok fl =>
    cases fl with
    | ret u => exact I.after hq
    | next => exact False.elim hq
    | brk => exact False.elim hq
    | cont => exact False.elim hq
theorem pd_callF (c : Callable X.gc Fc f k n m) (hr : Room j X.A) (hk : k ≤ j) (hN : X.N[i]? = some x) (hv : Vis X.env.scope x) (hx : Passes (L2N.CX X.prog X.w) X E) (h1 : PAD X (some (.fn Fc)) E (e :: es) h) (hl : ∀ ρ s ds s', h ρ s = .ok (ds, s') → ds.length = n)
    (hd : (x == ("__debug__" : Str)) = false := by decide) (hcd : (x == ("__classdict__" : Str)) = false := by decide)
    (he : starEach (e :: es) X.env = (false, eval e X.env) :: starEach es X.env := by rfl) (hpl : (backTo pos (starEach es X.env)).any (·.1) = false := by rfl) : PED X (some (.fn Fc)) E (.Call (.Name x q) (e :: es) [] pos) (eCallF f i m h) := by
  refine ⟨fun pins s σ H Q I hh => ?_⟩
  obtain ⟨F, ρ, sp, pre, post⟩ := hh
  obtain ⟨hs, post⟩ := callF_slot pre post
  refine wpAny_Call_Name_kw (thn ((pe_var (pos := q) hN hv hd hcd).run pins s σ H (fun v H1 => v = .ref f ∧ H1 = H) I ⟨.ref f, hs, rfl, rfl⟩) fun u s1 ⟨v, H1, I1, r1, q1⟩ => ?_)
  obtain ⟨rfl, rfl⟩ := q1
  obtain rfl : u = Value.ref f := r1
  have eF : Ex Fc F := pre.sr.2.2
  refine PySem.W.callWith_F (first := []) (fnAt_obO I1 c (eF.trans pre.ex)) (thn (h1.run pos pins s1 σ H1 (fun vs H2 => ∃ F2 ds, Ex Fc F2 ∧ Ex F2 H2 ∧ TbF X.gc F2 H2 ∧ DDs X.gc F2 vs ds ∧ vs.length = n ∧ PostF X.gc E F2 H2 (m ds) Q) I1
    ⟨F, ρ, sp, pre, Post.bind post fun d1 s1 F1 xs H2 e1 x1 r1 q1 post1 => ⟨F1, d1, eF.trans x1.ff, x1.fh, r1.1, q1, by rw [q1.len]; exact hl _ _ _ _ e1, callF_post post1 r1⟩⟩) fun us s2 ⟨vs, H2, I2, r, F2, ds, g1, g2, g3, g4, g5, g6⟩ => ⟨fnAt_obO I2 c (g1.trans g2), ?_⟩) he hpl
  exact run_callF c hr hk hx I2 r g1 g2 g3 g4 g5 g6
theorem pd_callF0 (c : Callable X.gc Fc f k 0 m) (hr : Room j X.A) (hk : k ≤ j) (hN : X.N[i]? = some x) (hv : Vis X.env.scope x) (hx : Passes (L2N.CX X.prog X.w) X E)
    (hd : (x == ("__debug__" : Str)) = false := by decide) (hcd : (x == ("__classdict__" : Str)) = false := by decide) : PED X (some (.fn Fc)) E (.Call (.Name x q) [] [] pos) (eCallF f i m aNil) := by
  refine ⟨fun pins s σ H Q I hh => ?_⟩
  obtain ⟨F, ρ, sp, pre, post⟩ := hh
  obtain ⟨hs, post⟩ := callF_slot pre post
  refine wpAny_Call_Name_kw (thn ((pe_var (pos := q) hN hv hd hcd).run pins s σ H (fun v H1 => v = .ref f ∧ H1 = H) I ⟨.ref f, hs, rfl, rfl⟩) fun u s1 ⟨v, H1, I1, r1, q1⟩ => ?_)
  obtain ⟨rfl, rfl⟩ := q1
  obtain rfl : u = Value.ref f := r1
  have eF : Ex Fc F := pre.sr.2.2
  exact PySem.W.callWith_F0 (first := []) (fnAt_obO I1 c (eF.trans pre.ex)) (run_callF (us := []) c hr hk hx I1 .nil eF pre.ex pre.sr.1 .nil rfl (callF_post post pre.sr))
end
/-! ### a function without a name -/
/-- what the captured cells hold: L their objects, cs their data -/
structure CapF (G : GC) (Fc : Hp) (cl : List (Str × Addr)) (fr : List Str) (L : Ls) (cs : List D) : Prop where
  at_ : ∀ a o, L a = some o → Fc a = some (ObO a o) ∧ ∃ v, o = { cls := o.cls, dict := o.dict, data := .cell v, slots := o.slots }
  all : ∀ y c, cl.lookup y = some c → ∃ o, L c = some o
  inj : ∀ x y c, cl.lookup x = some c → cl.lookup y = some c → x = y
  len : cs.length = fr.length
  has : ∀ (i : Nat) (y : Str), fr[i]? = some y → ∃ c o u v d, cl.lookup y = some c ∧ L c = some o ∧ o.data = .cell (some u) ∧ L2.RelV v u ∧ cs[i]? = some d ∧ DD G Fc v d
theorem plain_cell {o : Obj} (h : ∃ v, o = { cls := o.cls, dict := o.dict, data := .cell v, slots := o.slots }) : Plain o := by
  obtain ⟨v, e⟩ := h
  rw [e]
  exact ⟨fun _ _ z => (nomatch z), fun _ z => (nomatch z), rfl⟩
def outR (r : R (D × List D)) : R D := r.bind fun z => .ok z.1
theorem DDs.at {G : GC} {F : Hp} {vs : List V} {ds : List D} (h : DDs G F vs ds) {i : Nat} {d : D} (e : ds[i]? = some d) : ∃ v, vs[i]? = some v ∧ DD G F v d := h.get e
theorem callable_lam {G : GC} {F : NdefX.NF} {N ps fr : List Str} {body : Expr} {flam : EM} {k n : Nat} {f : Addr} {pm ctv : Value} {Fc : Hp} {L : Ls} {cs : List D} (S : NdefX.NScope N ps fr F.scope) (hn : ps.length = n)
    (hbind : ∀ us : List Value, us.length = ps.length → bindArgs (PySem.W.kla_fn "<lambda>" F.qual F.params body F.scope F.cl pm (.ref F.c) ctv) ⟨us, []⟩ = pure (ps.zip us))
    (hbody : ∀ (A : Around) (outer : List PySem.Env) (s : Shared) (H : Hp) (E : XK), Room k (A.deeper (NdefX.envF F f s.heap.objs.size)) → PE (NdefX.ncx (L2N.CX G.P G.w) G.P G.w G.K G.mg G.base N F f A outer s H E) body (tD G none E flam))
    (hf : Fc f = some (ObO f (PySem.W.kla_obj "<lambda>" F.qual F.params body F.scope F.cl pm F.c ctv))) (hc : Fc F.c = some (LamX.CodeO F.c F.qual)) (C : CapF G Fc F.cl fr L cs) :
    Callable G Fc f (k + 1) n (fun ds => outR (flam (ds.map some ++ (cs.map some ++ List.replicate (N.length - n - fr.length) none)) [])) := by
  refine ⟨⟨_, _, _, _, hf⟩, fun A outer s H us vs F1 ds Q E hr e0 r e1 e2 ht hd hl hq => ?_⟩
  have lF : ∀ a o, L a = some o → F1 a = some (ObO a o) := fun a o q => e1 _ _ (C.at_ a o q).1
  have lH : ∀ a o, L a = some o → H a = some (ObO a o) := fun a o q => e2 _ _ (lF a o q)
  have pl : ∀ a o, L a = some o → Plain o := fun a o q => plain_cell (C.at_ a o q).2
  have eM := env0_off e0 lH
  have lim : s.heap.NoLimit := e0.mod.nolimit.keeps fun b o e => (e0.bs b o e).1
  have hlp : vs.length = ps.length := hl.trans hn.symm
  refine codeAny_mono (R := CR (L2N.CX G.P G.w) outer G.P G.w (off L H) s (fun v H' => (∀ a o, L a = some o → H' a = none) → Q v (lend L H')) (fun cls d H' => (∀ a o, L a = some o → H' a = none) → E cls d (lend L H'))) ?_ fun r s' c => cr_off e0 lH c (fun _ _ q => q) fun _ _ _ q => q
  refine PySem.W.kla_callFunE hr.depth (obO_at e0.hok (e2 _ _ (e1 _ _ hf))) rfl S.co S.gen rfl (NdefX.codeO_at e0.hok (e2 _ _ (e1 _ _ hc))) ?_
  rw [hbind us (by rw [← r.length]; exact hlp)]
  refine wpAny_pure (wpAny_newFunctionEnv S.nocell (fun ⟨y, _⟩ hy => S.par y (List.of_mem_zip hy).1) (fun h₁ hns hsb => ⟨lim.fresh _ hsb, ?_⟩) S.kind)
  show codeAny _ _ (.expr body (NdefX.envF F f s.heap.objs.size)) _ _
  have kp : ∀ b o, s.heap.get? b = some o → h₁.get? b = some o := fun b o e => hsb.extBut b o (Nat.ne_of_lt (Heap.lt_size e)) (Heap.get?_push_of_some _ e)
  -- the captured values
  have cap : ∀ i y, fr[i]? = some y → ∃ v d, cs[i]? = some d ∧ DD G Fc v d ∧ ∃ c u, F.cl.lookup y = some c ∧ L2.RelV v u ∧ s.heap.IsCell c (some u) := fun i y hy => by
    obtain ⟨c, o, u, v, d, h1, h2, h3, h4, h5, h6⟩ := C.has i y hy
    exact ⟨v, d, h5, h6, c, u, h1, h4, o, obO_at e0.hok (lH c o h2), h3⟩
  obtain ⟨ws, lws, hws⟩ : ∃ ws : List (Option V), ws.length = fr.length ∧ ∀ i y, fr[i]? = some y → ∃ v d, ws[i]? = some (some v) ∧ cs[i]? = some d ∧ DD G Fc v d ∧ ∃ c u, F.cl.lookup y = some c ∧ L2.RelV v u ∧ s.heap.IsCell c (some u) := by
    refine ⟨(List.range fr.length).map fun i => if h : i < fr.length then some (Classical.choose (cap i _ (List.getElem?_eq_getElem h))) else none, by simp, fun i y hy => ?_⟩
    obtain ⟨hi, ey⟩ := List.getElem?_eq_some_iff.mp hy
    obtain ⟨d, h1, h2, c, u, h3, h4, h5⟩ := Classical.choose_spec (cap i _ (List.getElem?_eq_getElem hi))
    refine ⟨Classical.choose (cap i _ (List.getElem?_eq_getElem hi)), d, ?_, h1, h2, c, u, by rw [← ey]; exact h3, h4, h5⟩
    rw [List.getElem?_map, List.getElem?_range hi]
    show some (dite _ _ _) = _
    rw [dif_pos hi]
  have CA : NdefX.CellsAt F.cl fr ws s.heap (off L H) := by
    refine ⟨lws, fun y c e => ?_, C.inj, fun i y hy => ?_⟩
    · obtain ⟨o, h1⟩ := C.all y c e
      obtain ⟨v, h2⟩ := (C.at_ c o h1).2
      exact ⟨off_in h1, v, o, obO_at e0.hok (lH c o h1), by rw [h2]⟩
    · obtain ⟨v, d, h1, _, _, c, u, h2, h3, h4⟩ := hws i y hy
      refine ⟨c, h2, fun v' e => ?_⟩
      rw [h1] at e; cases e
      exact ⟨u, h3, h4⟩
  have I := NdefX.inv_startN (CX := L2N.CX G.P G.w) (f := f) (E := fun cls d H' => (∀ a o, L a = some o → H' a = none) → E cls d (lend L H')) (tk := s.toks + (ps.zip us).length) S hr.hd eM hlp r CA hns kp
  have hrel : RelD G (off L F1) (NdefX.startF N vs ws) (ds.map some ++ (cs.map some ++ List.replicate (N.length - n - fr.length) none)) := fun i d hi => by
    have lds : (ds.map some).length = vs.length := by rw [List.length_map, hd.len]
    unfold NdefX.startF
    by_cases h1 : i < vs.length
    · rw [List.getElem?_append_left (by rw [lds]; exact h1), List.getElem?_map] at hi
      rw [List.getElem?_append_left (by rw [List.length_map]; exact h1), List.getElem?_map]
      cases hdi : ds[i]? with
      | none => rw [hdi] at hi; cases hi
      | some d' =>
        rw [hdi] at hi
        have : d' = d := by simpa using hi
        subst this
        obtain ⟨v, h2, h3⟩ := hd.get hdi
        rw [h2]
        exact ⟨v, rfl, dd_sm (dd_off lF pl) _ _ h3⟩
    · rw [List.getElem?_append_right (by rw [lds]; omega), lds] at hi
      rw [List.getElem?_append_right (by rw [List.length_map]; omega), show i - (vs.map some).length = i - vs.length by rw [List.length_map]]
      by_cases h2 : i - vs.length < fr.length
      · rw [List.getElem?_append_left (by rw [List.length_map, C.len]; exact h2), List.getElem?_map] at hi
        rw [List.getElem?_append_left (by rw [lws]; exact h2)]
        obtain ⟨v, d', h3, h4, h5, _⟩ := hws (i - vs.length) _ (List.getElem?_eq_getElem h2)
        rw [h4] at hi
        have : d' = d := by simpa using hi
        subst this
        exact ⟨v, h3, dd_sm (dd_off lF pl) _ _ (h5.ex e1)⟩
      · rw [List.getElem?_append_right (by rw [List.length_map, C.len]; omega)] at hi
        rw [List.getElem?_replicate] at hi
        split at hi <;> cases hi
  have ht' : tD G none (fun cls d H' => (∀ a o, L a = some o → H' a = none) → E cls d (lend L H')) flam (NdefX.startF N vs ws) (off L H) (fun v H' => (∀ a o, L a = some o → H' a = none) → Q v (lend L H')) := by
    refine ⟨off L F1, _, [], ⟨ex_off2 e2, ⟨⟨tb_off lH pl ht.1, fun z hz => off_none (ht.2 z hz)⟩, rfl⟩, hrel⟩, ?_⟩
    have hq' : PostF G E F1 H (outR (flam (ds.map some ++ (cs.map some ++ List.replicate (N.length - n - fr.length) none)) [])) Q := hq
    cases hfl : flam (ds.map some ++ (cs.map some ++ List.replicate (N.length - n - fr.length) none)) [] with
    | un => rw [hfl] at hq'; exact hq'.elim
    | ex e =>
      rw [hfl] at hq'
      intro F' H' x
      have q2 : ∀ F' H', Ext G none F1 H F' H' → ExW G E e F' H' := hq'
      unfold ExW
      cases ha : e.arg with
      | none =>
        intro g
        have := q2 (lend L F') (lend L H') (ext_back lH lF pl x g)
        unfold ExW at this
        rw [ha] at this
        exact this
      | some nd =>
        obtain ⟨nm, dd⟩ := nd
        intro xx v hx hv g
        have gF : ∀ a o, L a = some o → F' a = none := fun a o q => by
          cases h : F' a with
          | none => rfl
          | some u => have := x.fh a u h; rw [g a o q] at this; cases this
        have := q2 (lend L F') (lend L H') (ext_back lH lF pl x g)
        unfold ExW at this
        rw [ha] at this
        exact this xx v (by rw [lend_out (look_none g hx)]; exact hx) (hv.ex (ex_lend gF))
    | ok z =>
      rw [hfl] at hq'
      intro F' v H' x _ hv g
      have q2 : ∀ F' v H', Ext G none F1 H F' H' → DD G F' v z.1 → Q v H' := hq'
      have gF : ∀ a o, L a = some o → F' a = none := fun a o q => by
        cases h : F' a with
        | none => rfl
        | some u => have := x.fh a u h; rw [g a o q] at this; cases this
      exact q2 (lend L F') v (lend L H') (ext_back lH lF pl x g) (hv.ex (ex_lend gF))
  refine PySem.W.kla_codeExpr (wpAny_mono ((hbody A outer s (off L H) _ (hr.deeper _)).run [] _ _ (off L H) _ I ht') (fun v s' hq => ?_) fun e s' hq => hq)
  obtain ⟨w', H', J, rv, q⟩ := hq
  exact ⟨w', H', J.os, J.bare, J.base, J.hok, rv, q⟩
end DL
end

section
set_option Elab.async false
set_option linter.all false
set_option maxRecDepth 100000
set_option maxHeartbeats 4000000
/-! The data layer, part 23: a function without a name is made, and handed to a def. -/
namespace DL
open PySem PySem.Spec PyProof.Rows L2
/-- the maker's table -/
structure TabF (X : Cx) (q : Str) where
  c : Addr
  P : Addr
  tb : LamX.TabB X.base X.mg c P
  code : X.env.code = .ref c
  mem : (P, q) ∈ TK X.K
  one : ∀ z ∈ TK X.K, z.1 = P → z.2 = q
  qual : X.env.qual ++ "<lambda>" = q
/-- a function just made -/
structure LamAt (X : Cx) (params : Arguments) (body : Expr) (scope : Scope) (q : Str) (f c' : Addr) (H : Hp) (s : Shared) : Prop where
  ob : ∃ pm ctv, s.heap.get? f = some (PySem.W.kla_obj "<lambda>" q params body scope (cloFrom X.env.cells scope.names []) pm c' ctv)
  fr : H f = none
  st : f ∉ frs X.stack
  nb : X.base.get? f = none
  co : H c' = some (LamX.CodeO c' q)
section
variable {X : Cx} {pins : List (Addr × Obj)} {σ : L2.St} {H : Hp} {s : Shared} {params : Arguments} {body : Expr} {scope : Scope} {pos : Pos} {q : Str}
/-- what the making leaves -/
structure Grown (K : PySem.W.Frag) (H H1 : Hp) : Prop where
  keep : ∀ b o, (∀ z ∈ TK K, b ≠ z.1) → H b = some o → H1 b = some o
  dom : ∀ b, H b ≠ none → H1 b ≠ none
theorem lam_new {E : Value → Shared → Prop} {Q : Value → Shared → Prop} (I : Inv X pins σ H s) (T : TabF X q) (hT : Tb X.gc H) (hdef : defaultsOf params X.env = ([], [])) (hfree : ∀ y ∈ scope.names, y.2 = .free → ∃ c, X.env.cells.lookup y.1 = some c)
    (h : ∀ (f c' : Addr) (H1 : Hp) (s' : Shared), Inv X pins σ H1 s' → Grown X.K H H1 → Tb X.gc H1 → LamAt X params body scope q f c' H1 s' → Q (.ref f) s') : wpAny (model X.prog X.w) X.A (eval (.Lambda params body scope pos) X.env) Q E s := by
  obtain ⟨c, P, TB, hcode, hm, hu, hq⟩ := T
  obtain ⟨ps, hP, ht, ha⟩ := hT _ hm
  have getP : s.heap.get? P = some { cls := .none, data := .fields ps } := I.hok P _ hP
  have bP : s.heap.BuiltinsAt X.mg P := TB.bm.keeps I.bk
  have nofr : ∀ g : Addr, s.heap.objs.size ≤ g → g ∉ frs X.stack := fun g hg z => by
    rcases List.mem_cons.mp (I.stkSub g z) with e | e
    · rw [e] at hg; exact absurd I.lt (Nat.not_lt.mpr hg)
    · exact I.nofs hg e
  have nobase : ∀ g : Addr, s.heap.objs.size ≤ g → X.base.get? g = none := fun g hg => by
    cases z : X.base.get? g with
    | none => rfl
    | some o => exact absurd (Heap.lt_size z) (Nat.not_lt.mpr (Nat.le_trans (Nat.le_trans I.ok.bsz I.sz) hg))
  have nP : ∀ b, (∀ z ∈ TK X.K, b ≠ z.1) → b ≠ P := fun b hb => hb _ hm
  refine PySem.W.kla_eval hdef ?_
  rw [hq]
  cases hcd : codeAmong pos ps.toList with
  | some cv =>
    obtain ⟨c', rfl, hco⟩ := ha pos cv hcd
    refine PySem.W.kla_makeFunctionHit (mg := X.mg) (c := c) (P := P) (ps := ps) (closure_ok hfree) I.ok.glob (I.mod.glob.keeps I.bk) hcode (TB.code.keeps I.bk) getP ht hcd bP fun ctv h' tk hx hsz => ?_
    have I1 : Inv X pins σ H { s with heap := h'.push (PySem.W.kla_obj "<lambda>" q params body scope (cloFrom X.env.cells scope.names []) ((X.mg "__name__").getD .none) c' ctv), toks := tk } := I.kept fun b o e => Heap.get?_push_of_some _ (hx b o e)
    exact h _ c' H _ I1 ⟨fun _ _ _ e => e, fun _ n => n⟩ hT ⟨⟨_, ctv, Heap.get?_push_size _ rfl⟩, I.hok.fresh hsz, nofr _ hsz, nobase _ hsz, hco⟩
  | none =>
    refine PySem.W.kla_makeFunction (mg := X.mg) (c := c) (P := P) (ps := ps) (closure_ok hfree) I.ok.glob (I.mod.glob.keeps I.bk) hcode (TB.code.keeps I.bk) getP ht hcd TB.gP bP fun c' ctv h' tk hx hge hlt hrec htb => ?_
    obtain ⟨_, oc, vs, t, e2, hoc, hd, hv⟩ := hrec
    cases e2
    have nC : H c' = none := I.hok.fresh hge
    have hsz : s.heap.objs.size ≤ h'.objs.size := Nat.le_trans hge (Nat.le_of_lt hlt)
    obtain ⟨ps2, eps⟩ : ∃ ps2, ps2 = ps ++ #[rawInt pos.line, rawInt pos.col, Value.ref c'] := ⟨_, rfl⟩
    rw [← eps] at htb
    have I1 := LamX.inv_table (q := q) (t' := tk) (more := #[rawInt pos.line, rawInt pos.col, .ref c']) (h' := h'.push (PySem.W.kla_obj "<lambda>" q params body scope (cloFrom X.env.cells scope.names []) ((X.mg "__name__").getD .none) c' ctv)) I hP
      (fun b o hb e => Heap.get?_push_of_some _ (hx b o hb e)) (Heap.get?_push_of_some _ (by rw [← eps]; exact htb)) hge ⟨oc, vs, t, Heap.get?_push_of_some _ hoc, hd, hv⟩
    rw [← eps] at I1
    have same : ∀ b, b ≠ P → b ≠ c' → upd (upd H P (.tbl ps2)) c' (LamX.CodeO c' q) b = H b := fun b h1 h2 => by rw [upd_ne h2, upd_ne h1]
    have nPc : P ≠ c' := ne_of_none hP nC
    refine h h'.objs.size c' _ _ I1 ⟨fun b o hb e => ?_, fun b n => ?_⟩ (fun z hz => ?_) ⟨⟨_, ctv, Heap.get?_push_size _ rfl⟩, ?_, nofr _ hsz, nobase _ hsz, upd_same⟩
    · rw [same b (nP b hb) (ne_of_none e nC)]; exact e
    · by_cases e1 : b = c'
      · rw [e1, upd_same]; simp
      · by_cases e2 : b = P
        · rw [upd_ne e1, e2, upd_same]; simp
        · rw [same b e2 e1]; exact n
    · by_cases e1 : z.1 = P
      · rw [hu z hz e1, e1]
        refine ⟨ps2, by rw [upd_ne nPc, upd_same], by rw [eps, Array.toList_append]; exact PySem.TriplesOk_snoc _ _ _ _ ht, fun p' cv hcv => ?_⟩
        rw [eps, Array.toList_append] at hcv
        rcases LamX.among_app _ ht hcv with w | w
        · obtain ⟨c0, g1, g2⟩ := ha p' cv w
          refine ⟨c0, g1, ?_⟩
          rw [same c0 (fun y => by rw [y, hP] at g2; unfold LamX.CodeO at g2; cases g2) (ne_of_none g2 nC)]
          exact g2
        · exact ⟨c', w, upd_same⟩
      · obtain ⟨ps', a1, a2, a3⟩ := hT z hz
        refine ⟨ps', by rw [same _ e1 (ne_of_none a1 nC)]; exact a1, a2, fun p' cv hcv => ?_⟩
        obtain ⟨c0, g1, g2⟩ := a3 p' cv hcv
        refine ⟨c0, g1, ?_⟩
        rw [same c0 (fun y => by rw [y, hP] at g2; unfold LamX.CodeO at g2; cases g2) (ne_of_none g2 nC)]
        exact g2
    · rw [same _ (fun y => by have := Heap.lt_size getP; rw [← y] at this; exact absurd this (Nat.not_lt.mpr hsz)) (fun y => by rw [y] at hlt; exact Nat.lt_irrefl _ hlt)]
      exact I.hok.fresh hsz
end
/-! ### arguments, the last of them such a function -/
abbrev TAL := L2.St → Hp → (List V → Addr → Addr → Hp → Prop) → Prop
structure PAL (X : Cx) (params : Arguments) (body : Expr) (scope : Scope) (q : Str) (es : List Expr) (t : TAL) : Prop where
  run : ∀ (pos : Pos) (pins : List (Addr × Obj)) (s : Shared) (σ : L2.St) (H : Hp) (Q : List V → Addr → Addr → Hp → Prop), Inv X pins σ H s → t σ H Q → wpAny (model X.prog X.w) X.A (spliced (backTo pos (starEach es X.env)))
    (fun us s' => ∃ vs us' f c' H', Inv X pins σ H' s' ∧ Vals vs us' ∧ us = us' ++ [.ref f] ∧ LamAt X params body scope q f c' H' s' ∧ Q vs f c' H') X.xe s
def PostLA (G : GC) (p : Option PQ) (E : XK) (F H : Hp) (r : R (List D × List D)) (Q : List V → Addr → Addr → Hp → Prop) : Prop := match r with
  | .ok (ds, s) => ∀ F' vs f c' H', Ext G p F H F' H' → SRel G p F' H' s → DDs G F' vs ds → Q vs f c' H'
  | .ex e => ∀ F' H', Ext G p F H F' H' → ExW G E e F' H'
  | .un => False
def tLA (G : GC) (p : Option PQ) (E : XK) (h : AM) : TAL := fun σ H Q => ∃ F ρ s, Pre G p F H σ ρ s ∧ PostLA G p E F H (h ρ s) Q
section
variable {X : Cx} {p : Option PQ} {E : XK} {params : Arguments} {body : Expr} {scope : Scope} {q : Str} {lpos : Pos}
theorem pal_lam (T : TabF X q) (hdef : defaultsOf params X.env = ([], [])) (hfree : X.Ok → ∀ y ∈ scope.names, y.2 = .free → ∃ c, X.env.cells.lookup y.1 = some c) (hs : starEach [.Lambda params body scope lpos] X.env = [(false, eval (.Lambda params body scope lpos) X.env)] := by rfl) :
    PAL X params body scope q [.Lambda params body scope lpos] (tLA X.gc p E aNil) := by
  refine ⟨fun pos pins s σ H Q I hh => ?_⟩
  obtain ⟨F, ρ, sp, pre, post⟩ := hh
  rw [hs]
  show wpAny _ _ (spliced ((false, eval (.Lambda params body scope lpos) X.env) :: [])) _ _ s
  refine Calls.spliced_cons (lam_new I T pre.sr.1.1 hdef (hfree I.ok) fun f c' H1 s' I1 gr t1 la => Calls.spliced_nil ⟨[], [], f, c', H1, I1, .nil, rfl, la, ?_⟩)
  have nz : ∀ {b o}, F b = some o → ∀ z ∈ TK X.K, b ≠ z.1 := fun e z hz y => by rw [y, pre.sr.1.2 z hz] at e; cases e
  have x : Ext X.gc none F H F H1 := ⟨Ex.refl F, fun b o e => gr.keep b o (nz e) (pre.ex b o e), fun _ _ => rfl, fun b o _ e nt => gr.keep b o (fun z hz y => by
    obtain ⟨ps, hp⟩ := pre.sr.1.1.some hz
    rw [y, hp] at e; cases e
    exact nt ps rfl) e, gr.dom, fun _ => t1⟩
  exact (show PostLA X.gc p E F H (.ok ([], sp)) Q from post) F [] f c' H1 x.weak (pre.sr.ext x) .nil
theorem pal_cons {e : Expr} {es : List Expr} {f : EM} {h : AM} (h1 : PED X p E e f) (h2 : PAL X params body scope q es (tLA X.gc p E h)) (hs : starEach (e :: es) X.env = (false, eval e X.env) :: starEach es X.env := by rfl) : PAL X params body scope q (e :: es) (tLA X.gc p E (aCons f h)) := by
  refine ⟨fun pos pins s σ H Q I hh => ?_⟩
  obtain ⟨F, ρ, sp, pre, post⟩ := hh
  rw [hs]
  show wpAny _ _ (spliced ((false, eval e X.env) :: backTo pos (starEach es X.env))) _ _ s
  have post' : PostLA X.gc p E F H ((f ρ sp).bind fun z => (h ρ z.2).bind fun y => .ok (z.1 :: y.1, y.2)) Q := post
  have t1 : tD X.gc p E f σ H (fun v H1 => tLA X.gc p E h σ H1 fun vs g c' H2 => Q (v :: vs) g c' H2) := by
    refine ⟨F, ρ, sp, pre, ?_⟩
    cases hf : f ρ sp with
    | un => rw [hf] at post'; exact post'
    | ex ee => rw [hf] at post'; exact post'
    | ok z =>
      rw [hf] at post'
      intro F1 v H1 x1 r1 d1
      refine ⟨F1, ρ, z.2, pre.next x1 r1, ?_⟩
      have post2 : PostLA X.gc p E F H ((h ρ z.2).bind fun y => .ok (z.1 :: y.1, y.2)) Q := post'
      cases hh : h ρ z.2 with
      | un => rw [hh] at post2; exact post2
      | ex ee => rw [hh] at post2; exact fun F' H' x => post2 F' H' (x1.trans x)
      | ok y =>
        rw [hh] at post2
        exact fun F2 vs g c' H2 x2 r2 d2 => post2 F2 (v :: vs) g c' H2 (x1.trans x2) r2 (.cons (d1.ex x2.ff) d2)
  refine Calls.spliced_cons (thn (h1.run pins s σ H _ I t1) fun u s1 ⟨v, H1, I1, r1, q1⟩ => ?_)
  refine thn (h2.run pos pins s1 σ H1 _ I1 q1) fun us s2 ⟨vs, us', g, c', H2, I2, r2, eu, la, q2⟩ => ⟨v :: vs, u :: us', g, c', H2, I2, .cons r1 r2, by rw [eu]; rfl, la, q2⟩
end
/-! ### defs that are handed such a function last -/
def spF (G : GC) (Fc : Hp) (f : Addr) (n : Nat) (m : List D → R D) : Sp := fun vs H Q E => ∃ F ds, Ex Fc F ∧ Ex F H ∧ TbF G F H ∧ vs.length = n + 1 ∧ DDs G F vs (ds ++ [opq f]) ∧ PostF G E F H (m ds) Q
structure FnF (G : GC) (k kf nf : Nat) (x : Str) (n : Nat) (gm : Addr → (List D → R D) → List D → R D) : Prop where
  ex : ∃ fd ps, (∀ Fc f m, Callable G Fc f kf nf m → FnOk G.P G.w G.K G.mg G.base (L2N.CX G.P G.w) k (He.ga G.K x) fd ps (spF G Fc f n (gm f m))) ∧ Binds G.K fd ps []
  gl : G.mg x = some (.ref (He.ga G.K x))
  kp : PySem.W.keepIn G.K (.ref (He.ga G.K x)) = true
def runP (g : SM) (N : Nat) (f : Addr) : List D → R D := fun ds => runF g N (ds ++ [opq f])
theorem noPF {Fc H0 : Hp} : ∀ a : Addr, some (PQ.fn Fc) = some (.sp a) → H0 a ≠ none := fun _ z => nomatch z
theorem def_okP {G : GC} {x : Str} {st : Stmt} {N ps : List Str} {k kf nf n : Nat} {g : Addr → (List D → R D) → SM} (F : DefF G x st) (S : FnScope N ps (defScope st)) (hn : ps.length = n + 1)
    (hb : ∀ (kV doc pm : Value) (an : Option Addr) (cdv ct : Value) (us : List Value), us.length = ps.length → bindArgs (PySem.W.fnOf x x (defArgs st) (defBody st) (defScope st) .none kV doc pm an cdv ct) ⟨us, []⟩ = pure (ps.zip us))
    (der : ∀ (Fc : Hp) (f : Addr) (m : List D → R D), Callable G Fc f kf nf m → ∀ (cdv : Value) (A : Around) (outer : List PySem.Env) (s : Shared) (H F0 : Hp) (E : XK), cdv = .ref (He.codeOf G.K (x, none)) → SRel G (some (.fn Fc)) F0 H [] → Room k (A.deeper (envOfC x (defScope st) s.heap.objs.size (He.ga G.K x) cdv)) →
      Passes (L2N.CX G.P G.w) (cxOf (L2N.CX G.P G.w) G.P G.w G.K G.mg G.base N x (defScope st) (He.ga G.K x) cdv A outer s H E) E →
      PassesOwn (model G.P G.w) (A.deeper (envOfC x (defScope st) s.heap.objs.size (He.ga G.K x) cdv)) (envOfC x (defScope st) s.heap.objs.size (He.ga G.K x) cdv) (cxOf (L2N.CX G.P G.w) G.P G.w G.K G.mg G.base N x (defScope st) (He.ga G.K x) cdv A outer s H E).xe →
      PSsD (cxOf (L2N.CX G.P G.w) G.P G.w G.K G.mg G.base N x (defScope st) (He.ga G.K x) cdv A outer s H E) (some (.fn Fc)) E F0 H (defBody st) (g f m)) :
    FnF G (k + 1) kf nf x n (fun f m => runP (g f m) N.length f) := by
  obtain ⟨fd, FD⟩ := F.ex
  refine ⟨⟨fd, ps, fun Fc f m C => ?_, FD.bindsN hb⟩, F.gl, FD.kp⟩
  obtain ⟨oc, od, dV, kV, doc, pm, an, cdv, ct, osl, rfl, lk, hcd, _, _⟩ := FD.ex
  obtain ⟨c, hcr⟩ := He.codeIn_ref hcd
  have ecd : cdv = .ref (He.codeOf G.K (x, none)) := by rw [He.codeOf_eq (p := (x, none)) lk hcr]; exact hcr
  refine fn_of lk hcd S (fun vs H Q E h => ?_) fun A outer s H vs Q E hr h => ?_
  · obtain ⟨F0, ds, _, h1, ht, h2, h3, h4⟩ := h
    rw [h2, hn]
  · obtain ⟨F0, ds, h0, h1, ht, h2, h3, h4⟩ := h
    refine ⟨_, der Fc f m C cdv A outer s H F0 E ecd ⟨ht, rfl, h0⟩ hr (L2N.passes_call (L2N.takes_of (E := E) rfl rfl rfl rfl) fun _ _ _ _ h => h) (passes_of rfl), F0, (ds ++ [opq f]).map L.d ++ List.replicate (N.length - (ds ++ [opq f]).length) L.un, [], ⟨Ext.refl h1, ⟨ht, rfl, h0⟩, startL h3 N⟩, ?_⟩
    have h4' : PostF G E F0 H (runF (g f m) N.length (ds ++ [opq f])) Q := h4
    unfold runF at h4'
    show PostS _ (some (.fn Fc)) E F0 H F0 (g f m ((ds ++ [opq f]).map L.d ++ List.replicate (N.length - (ds ++ [opq f]).length) L.un) []) _
    cases hg : g f m ((ds ++ [opq f]).map L.d ++ List.replicate (N.length - (ds ++ [opq f]).length) L.un) [] with
    | nx ρ s' => rw [hg] at h4'; exact fun F σ H' _ st => h4' F .non H' ⟨st.ext.ff, st.ext.fh, st.ext.own, fun a o _ => st.ext.st a o (by simp), st.ext.dom, st.ext.tb⟩ .non
    | rt d s' => rw [hg] at h4'; exact fun F v H' x _ hv => h4' F v H' ⟨x.ff, x.fh, x.own, fun a o _ => x.st a o (by simp), x.dom, x.tb⟩ hv
    | bk ρ s' => rw [hg] at h4'; exact h4'.elim
    | ct ρ s' => rw [hg] at h4'; exact h4'.elim
    | ex e => rw [hg] at h4'; exact fun F H' _ x => h4' F H' ⟨x.ff, x.fh, x.own, fun a o _ => x.st a o (by simp), x.dom, x.tb⟩
    | un => rw [hg] at h4'; exact h4'.elim
end DL
end

section
set_option Elab.async false
set_option linter.all false
set_option maxRecDepth 100000
set_option maxHeartbeats 4000000
/-! The data layer, part 24: a def is called with a function without a name. -/
namespace DL
open PySem PySem.Spec PyProof.Rows L2
def slotD (ρ : Rho) (j : Nat) : Option D := match ρ[j]? with
  | some o => o
  | none => none
/-- the data of some slots -/
def capD (ρ : Rho) : List Nat → Option (List D)
  | [] => some []
  | j :: js => match slotD ρ j, capD ρ js with
    | some d, some ds => some (d :: ds)
    | _, _ => none
theorem capD_len {ρ : Rho} : ∀ {js : List Nat} {cs : List D}, capD ρ js = some cs → cs.length = js.length
  | [], cs, h => by cases h; rfl
  | j :: js, cs, h => by
    unfold capD at h
    cases h1 : slotD ρ j with
    | none => rw [h1] at h; cases h
    | some d =>
      cases h2 : capD ρ js with
      | none => rw [h1, h2] at h; cases h
      | some ds => rw [h1, h2] at h; cases h; rw [List.length_cons, List.length_cons, capD_len h2]
theorem capD_get {ρ : Rho} : ∀ {js : List Nat} {cs : List D} {i j : Nat}, capD ρ js = some cs → js[i]? = some j → ∃ d, cs[i]? = some d ∧ ρ[j]? = some (some d)
  | [], _, i, j, _, e => by simp at e
  | j' :: js, cs, i, j, h, e => by
    unfold capD at h
    cases h1 : slotD ρ j' with
    | none => rw [h1] at h; cases h
    | some d =>
      cases h2 : capD ρ js with
      | none => rw [h1, h2] at h; cases h
      | some ds =>
        rw [h1, h2] at h
        cases h
        cases i with
        | zero =>
          have : j' = j := by simpa using e
          subst this
          refine ⟨d, rfl, ?_⟩
          unfold slotD at h1
          cases q : ρ[j']? with
          | none => rw [q] at h1; cases h1
          | some o => rw [q] at h1; exact congrArg some h1
        | succ i => exact capD_get (i := i) h2 (by simpa using e)
/-- what a function without a name answers: cs its captured values -/
def lamM (flam : EM) (k : Nat) (cs ds : List D) : R D := outR (flam (ds.map some ++ (cs.map some ++ List.replicate k none)) [])
open Classical in
/-- f(.., lambda ..) -/
noncomputable def eCallLam (gm : Addr → (List D → R D) → List D → R D) (h : AM) (js : List Nat) (lm : List D → List D → R D) : EM := fun ρ s => (h ρ s).bind fun z => match capD ρ js with
  | some cs => if ∀ f : Addr, gm f (lm cs) z.1 = gm 0 (lm cs) z.1 then (gm 0 (lm cs) z.1).bind fun d => .ok (d, z.2) else .un
  | none => .un
/-- is the outcome e -/
def ExIs (G : GC) (e : Exn) (F : Hp) (cls : Value) (d : Option Addr) (H : Hp) : Prop := cls = .ref (He.ga G.K e.cls) ∧ match e.arg with
  | none => d = none
  | some (nm, dd) => ∃ x v, d = some x ∧ H x = some (.xd [(nm, v)]) ∧ DD G F v dd
section
variable {X : Cx} {p : Option PQ} {E : XK} {params : Arguments} {body : Expr} {lscope : Scope} {q : Str}
theorem cells_new {pins : List (Addr × Obj)} {σ : L2.St} {H : Hp} {s : Shared} (I : Inv X pins σ H s) (hfn : ∀ x, X.fn x = true) {y : Str} {c : Addr} (e : X.env.cells.lookup y = some c) : c ∉ frs X.stack ∧ X.base.get? c = none := by
  have hge := I.ok.cab y c (hfn y) e
  refine ⟨fun hm => ?_, ?_⟩
  · rcases List.mem_cons.mp (I.stkSub c hm) with z | z
    · exact I.cne y c e z
    · obtain ⟨_, o, ho, _⟩ := I.ok.funs.mem z
      exact absurd (Heap.lt_size ho) (Nat.not_lt.mpr hge)
  · cases z : X.base.get? c with
    | none => rfl
    | some o => exact absurd (Heap.lt_size z) (Nat.not_lt.mpr (Nat.le_trans I.ok.bsz hge))
/-- the objects of some cells -/
noncomputable def cellL (cl : List (Str × Addr)) (h : Heap) : Ls := open Classical in fun a => if ∃ y, cl.lookup y = some a then h.get? a else none
noncomputable def lamL (f : Addr) (cl : List (Str × Addr)) (h : Heap) : Ls := open Classical in fun a => if a = f then h.get? f else cellL cl h a
theorem cellL_some {cl : List (Str × Addr)} {h : Heap} {a : Addr} {o : Obj} (e : cellL cl h a = some o) : (∃ y, cl.lookup y = some a) ∧ h.get? a = some o := by
  unfold cellL at e
  split at e
  · exact ⟨‹_›, e⟩
  · cases e
theorem cellL_in {cl : List (Str × Addr)} {h : Heap} {a : Addr} {y : Str} (e : cl.lookup y = some a) : cellL cl h a = h.get? a := by
  unfold cellL
  rw [if_pos ⟨y, e⟩]
theorem lamL_some {f : Addr} {cl : List (Str × Addr)} {h : Heap} {a : Addr} {o : Obj} (e : lamL f cl h a = some o) : h.get? a = some o ∧ (a = f ∨ cellL cl h a = some o) := by
  unfold lamL at e
  split at e
  · rename_i z; rw [z]; exact ⟨e, .inl rfl⟩
  · exact ⟨(cellL_some e).2, .inr e⟩
/-- what the callee is told -/
def fcOf (L : Ls) (F : Hp) (c' : Addr) (q : Str) : Hp := fun a => if a = c' then some (LamX.CodeO c' q) else lend L F a
def f2Of (L : Ls) (F F' : Hp) (c' : Addr) : Hp := fun a => if F a = none ∧ a = c' then none else off L F' a
/-- behind the call, for the caller -/
theorem ext_forth {G : GC} {L : Ls} {F H F' H' : Hp} {c' : Addr} {q : Str} (fh : Ex F H) (hc : H c' = some (LamX.CodeO c' q)) (l : ∀ a o, L a = some o → H a = none) (pl : ∀ a o, L a = some o → Plain o) (x : Ext G none (fcOf L F c' q) (lend L H) F' H') :
    Ext G none F H (f2Of L F F' c') (off L H') ∧ (∀ a o, L a = some o → H' a = some (ObO a o)) ∧ ∀ v d, DD G F' v d → DD G (f2Of L F F' c') v d := by
  have lH : ∀ a o, L a = some o → H' a = some (ObO a o) := fun a o e => x.st a _ (by simp) (lend_in e) obO_nT
  have nL : ∀ {a u}, H a = some u → L a = none := fun e => look_none l e
  have cF : F' c' = some (LamX.CodeO c' q) := x.ff c' _ (if_pos rfl)
  have inF : ∀ {a u}, F a = some u → F' a = some u := fun {a u} e => by
    by_cases h : a = c'
    · have := fh a u e
      rw [h, hc] at this
      rw [h, cF, ← this]
    · exact x.ff a u (by unfold fcOf; rw [if_neg h, lend_out (nL (fh a u e))]; exact e)
  refine ⟨⟨fun a u e => ?_, fun a u e => ?_, fun a n => ?_, fun a u _ e nt => ?_, fun a n => ?_, fun t => tb_off lH pl (x.tb (tb_lend l t))⟩, lH, fun v d h => dd_sm (fun a u e hd => ?_) v d h⟩
  · unfold f2Of
    rw [if_neg (fun z => by rw [z.1] at e; cases e), off_out (nL (fh a u e))]
    exact inF e
  · unfold f2Of at e
    split at e
    · cases e
    · obtain ⟨e1, e2⟩ := off_some e
      rw [off_out e1]
      exact x.fh a u e2
  · obtain ⟨u, hu⟩ : ∃ u, H a = some u := by
      cases h : H a with
      | none => exact absurd h n
      | some u => exact ⟨u, rfl⟩
    have nl := nL hu
    have o1 := x.own a (by rw [lend_out nl, hu]; simp)
    unfold f2Of
    by_cases h : F a = none ∧ a = c'
    · rw [if_pos h, h.1]
    · rw [if_neg h, off_out nl, o1]
      unfold fcOf
      by_cases h2 : a = c'
      · rw [if_pos h2]
        cases h3 : F a with
        | none => exact absurd ⟨h3, h2⟩ h
        | some w =>
          have := fh a w h3
          rw [h2, hc] at this
          rw [← this]
      · rw [if_neg h2, lend_out nl]
  · rw [off_out (nL e)]
    exact x.st a u (by simp) (by rw [lend_out (nL e)]; exact e) nt
  · obtain ⟨u, hu⟩ : ∃ u, H a = some u := by
      cases h : H a with
      | none => exact absurd h n
      | some u => exact ⟨u, rfl⟩
    rw [off_out (nL hu)]
    exact x.dom a (by rw [lend_out (nL hu), hu]; simp)
  · unfold f2Of
    have nl : L a = none := by
      cases h : L a with
      | none => rfl
      | some o =>
        have h1 := x.fh a u e
        rw [lH a o h] at h1
        cases h1
        exact absurd hd (obO_dat (pl a o h))
    rw [if_neg (fun z => ?_), off_out nl]
    · exact e
    · rw [z.2, cF] at e
      cases e
      rw [z.2] at hd
      exact absurd hd code_dat
theorem pd_callLam {g : Str} {gm : Addr → (List D → R D) → List D → R D} {e : Expr} {es : List Expr} {h : AM} {N ps fr : List Str} {js : List Nat} {flam : EM} {j k kf nf n : Nat} {pos q1 : Pos} (Fn : FnF X.gc k (kf + 1) nf g n gm) (hr : Room j X.A) (hk : k ≤ j) (hx : Passes (L2N.CX X.prog X.w) X E)
    (hL : PAL X params body lscope q (e :: es) (tLA X.gc p E h)) (hl : ∀ ρ s ds s', h ρ s = .ok (ds, s') → ds.length = n) (S : NdefX.NScope N ps fr lscope) (hnp : ps.length = nf)
    (hbind : ∀ (cl : List (Str × Addr)) (pm cv ctv : Value) (us : List Value), us.length = ps.length → bindArgs (PySem.W.kla_fn "<lambda>" q params body lscope cl pm cv ctv) ⟨us, []⟩ = pure (ps.zip us))
    (hbody : ∀ (F : NdefX.NF), F.scope = lscope → ∀ (f : Addr) (A : Around) (outer : List PySem.Env) (s : Shared) (H : Hp) (E : XK), Room kf (A.deeper (NdefX.envF F f s.heap.objs.size)) → PE (NdefX.ncx (L2N.CX X.prog X.w) X.prog X.w X.K X.mg X.base N F f A outer s H E) body (tD X.gc none E flam))
    (hfn : ∀ x, X.fn x = true) (hfree : ∀ y ∈ lscope.names, y.2 = .free → X.env.scope.names.lookup y.1 = some .cell ∨ X.env.scope.names.lookup y.1 = some .free) (hfr : ∀ y ∈ fr, (y, NameKind.free) ∈ lscope.names) (hjs : js.map (fun j => X.N[j]?) = fr.map some)
    (hg : Gl X g := by rfl) (hdb : (g == ("__debug__" : Str)) = false := by decide) (hpl : ∀ M A Q Er s, wpAny M A (spliced (backTo pos (starEach (e :: es) X.env))) Q Er s → wpAny M A (spliced (backTo pos (starEach (e :: es) X.env))) Q Er s := by intros; assumption)
    (he : starEach (e :: es) X.env = (false, eval e X.env) :: starEach es X.env := by rfl) (hp : (backTo pos (starEach es X.env)).any (·.1) = false := by rfl) :
    PED X p E (.Call (.Name g q1) (e :: es) [] pos) (eCallLam gm h js (lamM flam (N.length - nf - fr.length))) := by
  refine ⟨fun pins s σ H Q I hh => ?_⟩
  obtain ⟨F, ρ, sp, pre, post⟩ := hh
  obtain ⟨fd, aps, FO, hb⟩ := Fn.ex
  have post0 : Post X.gc p E F H ((h ρ sp).bind fun z => match capD ρ js with
    | some cs => open Classical in if ∀ f : Addr, gm f (lamM flam (N.length - nf - fr.length) cs) z.1 = gm 0 (lamM flam (N.length - nf - fr.length) cs) z.1 then (gm 0 (lamM flam (N.length - nf - fr.length) cs) z.1).bind fun d => .ok (d, z.2) else .un
    | none => .un) (fun F' _ v d => DD X.gc F' v d) Q := post
  refine wpAny_Call_Name_kw (ld_glob I hg Fn.gl ?_ hdb)
  have tl : tLA X.gc p E h σ H (fun vs f c' H1 => ∃ F1 ds sp1, Ext X.gc p F H F1 H1 ∧ SRel X.gc p F1 H1 sp1 ∧ DDs X.gc F1 vs ds ∧ ds.length = n ∧ Post X.gc p E F1 H1 (match capD ρ js with
    | some cs => open Classical in if ∀ f : Addr, gm f (lamM flam (N.length - nf - fr.length) cs) ds = gm 0 (lamM flam (N.length - nf - fr.length) cs) ds then (gm 0 (lamM flam (N.length - nf - fr.length) cs) ds).bind fun d => .ok (d, sp1) else .un
    | none => .un) (fun F' _ v d => DD X.gc F' v d) Q) := by
    refine ⟨F, ρ, sp, pre, ?_⟩
    cases hh : h ρ sp with
    | un => rw [hh] at post0; exact post0
    | ex ee => rw [hh] at post0; exact post0
    | ok z =>
      rw [hh] at post0
      intro F1 vs f c' H1 x1 r1 d1
      refine ⟨F1, z.1, z.2, x1, r1, d1, hl _ _ _ _ hh, ?_⟩
      have p1 : Post X.gc p E F H (match capD ρ js with
        | some cs => open Classical in if ∀ f : Addr, gm f (lamM flam (N.length - nf - fr.length) cs) z.1 = gm 0 (lamM flam (N.length - nf - fr.length) cs) z.1 then (gm 0 (lamM flam (N.length - nf - fr.length) cs) z.1).bind fun d => .ok (d, z.2) else .un
        | none => .un) (fun F' _ v d => DD X.gc F' v d) Q := post0
      cases hm : (match capD ρ js with
        | some cs => open Classical in if ∀ f : Addr, gm f (lamM flam (N.length - nf - fr.length) cs) z.1 = gm 0 (lamM flam (N.length - nf - fr.length) cs) z.1 then (gm 0 (lamM flam (N.length - nf - fr.length) cs) z.1).bind fun d => .ok (d, z.2) else .un
        | none => .un) with
      | un => rw [hm] at p1; exact p1
      | ex ee => rw [hm] at p1; exact fun F' H' x => p1 F' H' (x1.trans x)
      | ok w => rw [hm] at p1; exact fun F' v H' x => p1 F' v H' (x1.trans x)
  refine PySem.W.callWith_K (h₀ := X.base) I.ok.mod.kin Fn.kp (thn (hL.run pos pins s σ H _ I tl) fun us s1 hq => ?_) he hp
  obtain ⟨vs, us', f, c', H1, I1, rv, rfl, la, F1, ds, sp1, x1, r1, d1, hlen, post1⟩ := hq
  refine ⟨I1.kIn, ?_⟩
  cases hcap : capD ρ js with
  | none => rw [hcap] at post1; exact post1.elim
  | some cs =>
  rw [hcap] at post1
  have post2 : Post X.gc p E F1 H1 (open Classical in if ∀ f : Addr, gm f (lamM flam (N.length - nf - fr.length) cs) ds = gm 0 (lamM flam (N.length - nf - fr.length) cs) ds then (gm 0 (lamM flam (N.length - nf - fr.length) cs) ds).bind fun d => .ok (d, sp1) else .un) (fun F' _ v d => DD X.gc F' v d) Q := post1
  by_cases hall : ∀ f : Addr, gm f (lamM flam (N.length - nf - fr.length) cs) ds = gm 0 (lamM flam (N.length - nf - fr.length) cs) ds
  case neg => rw [if_neg hall] at post2; exact post2.elim
  rw [if_pos hall] at post2
  obtain ⟨pm, ctv, hob⟩ := la.ob
  -- the cells
  obtain ⟨cl, ecl⟩ : ∃ cl, cl = cloFrom X.env.cells lscope.names [] := ⟨_, rfl⟩
  have CAP : NdefX.Caps X cl fr js := by rw [ecl]; exact NdefX.Caps.made I1.ok hfree hfr hjs
  have CA := NdefX.cells_of I1 CAP
  have exF : Ex F1 H1 := x1.fh
  -- what is lent
  have lo : ∀ a o, lamL f cl s1.heap a = some o → H1 a = none ∧ a ∉ frs X.stack ∧ X.base.get? a = none ∧ Plain o := fun a o e => by
    obtain ⟨e1, e2⟩ := lamL_some e
    rcases e2 with rfl | e2
    · rw [hob] at e1; cases e1
      exact ⟨la.fr, la.st, la.nb, fun _ _ z => (nomatch z), fun _ z => (nomatch z), rfl⟩
    · obtain ⟨⟨y, hy⟩, _⟩ := cellL_some e2
      obtain ⟨n1, n2⟩ := cells_new I1 hfn (CAP.sub y a hy)
      obtain ⟨m1, v, o', m2, m3⟩ := CA.all y a hy
      rw [e1] at m2; cases m2
      obtain ⟨oc, od, dt, sl⟩ := o
      have m3' : dt = .cell v := m3
      subst m3'
      exact ⟨m1, n1, n2, fun _ _ z => (nomatch z), fun _ z => (nomatch z), rfl⟩
  have LO : LsOk X.base (frs X.stack) H1 s1.heap (lamL f cl s1.heap) := ⟨fun a o e => (lamL_some e).1, fun a o e => (lo a o e).1, fun a o e => (lo a o e).2.1, fun a o e => (lo a o e).2.2.1⟩
  have pl : ∀ a o, lamL f cl s1.heap a = some o → Plain o := fun a o e => (lo a o e).2.2.2
  have nL : ∀ {a u}, H1 a = some u → lamL f cl s1.heap a = none := fun e => look_none LO.free e
  have Lf : lamL f cl s1.heap f = s1.heap.get? f := by unfold lamL; rw [if_pos rfl]
  have nfc : f ≠ c' := fun z => by have := la.fr; rw [z, la.co] at this; cases this
  obtain ⟨Fc, eFc⟩ : ∃ Fc, Fc = fcOf (lamL f cl s1.heap) F1 c' q := ⟨_, rfl⟩
  have fcH : Ex Fc (lend (lamL f cl s1.heap) H1) := fun a u e => by
    rw [eFc] at e
    unfold fcOf at e
    split at e
    · rename_i z; cases e; rw [z, lend_out (nL la.co)]; exact la.co
    · exact ex_lend2 exF a u e
  have f1c : Ex F1 Fc := fun a u e => by
    rw [eFc]
    unfold fcOf
    split
    · rename_i z
      have := exF a u e
      rw [z, la.co] at this
      exact this
    · rw [lend_out (nL (exF a u e))]; exact e
  have inFc : ∀ a o, lamL f cl s1.heap a = some o → Fc a = some (ObO a o) := fun a o e => by
    rw [eFc]
    unfold fcOf
    rw [if_neg (fun z => by have := LO.free a o e; rw [z, la.co] at this; cases this), lend_in e]
  have tb1 : TbF X.gc Fc (lend (lamL f cl s1.heap) H1) := ⟨tb_lend LO.free r1.1.1, fun z hz => by
    obtain ⟨pps, hpp⟩ := r1.1.1.some hz
    rw [eFc]
    unfold fcOf
    rw [if_neg (fun y => by rw [y, la.co] at hpp; unfold LamX.CodeO at hpp; cases hpp), lend_out (nL hpp)]
    exact r1.1.2 z hz⟩
  -- the function may be called
  have C : CapF X.gc Fc cl fr (cellL cl s1.heap) cs := by
    refine ⟨fun a o e => ?_, fun y c e => ?_, fun x y c e1 e2 => I1.ok.inj x y c (CAP.sub x c e1) (CAP.sub y c e2), ?_, fun i y hy => ?_⟩
    · obtain ⟨⟨y, hy⟩, e2⟩ := cellL_some e
      obtain ⟨m1, v, o', m2, m3⟩ := CA.all y a hy
      rw [e2] at m2; cases m2
      have naf : a ≠ f := fun z => by
        rw [z, hob] at e2; cases e2
        cases m3
      refine ⟨inFc a o (by unfold lamL; rw [if_neg naf]; exact e), v, ?_⟩
      obtain ⟨oc, od, dt, sl⟩ := o
      have m3' : dt = .cell v := m3
      subst m3'
      rfl
    · obtain ⟨_, v, o', m2, _⟩ := CA.all y c e
      exact ⟨o', by rw [cellL_in e]; exact m2⟩
    · rw [capD_len hcap]
      have := congrArg List.length hjs
      simpa using this
    · have e2 : (js.map fun j => X.N[j]?)[i]? = some (some y) := by rw [hjs, List.getElem?_map, hy]; rfl
      rw [List.getElem?_map] at e2
      cases ej : js[i]? with
      | none => rw [ej] at e2; cases e2
      | some j' =>
        rw [ej] at e2
        have hj' : X.N[j']? = some y := Option.some.inj e2
        obtain ⟨d, g1, g2⟩ := capD_get hcap ej
        obtain ⟨v, g3, g4⟩ := pre.rd j' d g2
        obtain ⟨c, g5, g6⟩ := CA.has i y hy
        have g7 : (js.map (NdefX.slotAt σ))[i]? = some (some v) := by rw [List.getElem?_map, ej]; show some (NdefX.slotAt σ j') = _; rw [NdefX.slotAt_of g3]
        obtain ⟨u, g8, o, g9, g10⟩ := g6 v g7
        exact ⟨c, o, u, v, d, g5, by rw [cellL_in g5]; exact g9, g10, g8, g1, (g4.ex x1.ff).ex f1c⟩
  have CB : Callable X.gc Fc f (kf + 1) nf (lamM flam (N.length - nf - fr.length) cs) := by
    refine callable_lam (F := ⟨"<lambda>", q, params, [], lscope, cl, c'⟩) (pm := pm) (ctv := ctv) (L := cellL cl s1.heap) S hnp (fun us hus => hbind _ _ _ _ us hus) (fun A outer s H E r => hbody _ rfl f A outer s H E r) ?_ ?_ C
    · rw [inFc f _ (Lf.trans hob), ecl]
    · rw [eFc]; exact if_pos rfl
  -- the call
  have hlv : (vs ++ [V.ref f]).length = n + 1 := by rw [List.length_append, d1.len, hlen]; rfl
  have rv2 : Vals (vs ++ [V.ref f]) (us' ++ [Value.ref f]) := rv.append (.cons rfl .nil)
  have FOK := FO Fc f _ CB
  refine wpAny_call (codeAny_mono (R := CR (L2N.CX X.prog X.w) X.stack X.prog X.w H1 s1 Q E) (codeAny_mono (FOK.run X.A X.stack s1 (lend (lamL f cl s1.heap) H1) ⟨us' ++ [.ref f], []⟩ (us' ++ [.ref f]) (vs ++ [.ref f])
    (fun v H' => ∃ F' d, gm f (lamM flam (N.length - nf - fr.length) cs) ds = .ok d ∧ Ext X.gc none Fc (lend (lamL f cl s1.heap) H1) F' H' ∧ DD X.gc F' v d) (fun cls dd H' => ∃ F' ee, gm f (lamM flam (N.length - nf - fr.length) cs) ds = .ex ee ∧ Ext X.gc none Fc (lend (lamL f cl s1.heap) H1) F' H' ∧ ExIs X.gc ee F' cls dd H')
    (hr.mono hk) (env0_lend I1.env0 LO) (by have := hb s1 (us' ++ [.ref f]) I1.kIn (by rw [List.append_nil, ← rv2.length, hlv]; have := FOK.len (vs ++ [.ref f]) (lend (lamL f cl s1.heap) H1) (fun _ _ => True) (fun _ _ _ => True) ; exact hlv.symm.trans (this ⟨Fc, ds, Ex.refl Fc, fcH, tb1, hlv, (d1.ex f1c).app (.cons (.opq f) .nil), by
        unfold PostF
        cases hm : gm f (lamM flam (N.length - nf - fr.length) cs) ds with
        | ok d => exact fun _ _ _ _ _ => trivial
        | ex ee => intro F' H' x; unfold ExW; cases ee.arg with
          | none => trivial
          | some nd => obtain ⟨nm, dd⟩ := nd; exact fun _ _ _ _ => trivial
        | un => rw [← hall f, hm] at post2; exact post2⟩)); rw [List.append_nil] at this; exact this) rv2 ?_) fun r s2 c => cr_lend LO c ?_ ?_) fun r s2 hq => ?_)
  · refine ⟨Fc, ds, Ex.refl Fc, fcH, tb1, hlv, (d1.ex f1c).app (.cons (.opq f) .nil), ?_⟩
    unfold PostF
    cases hm : gm f (lamM flam (N.length - nf - fr.length) cs) ds with
    | ok d => exact fun F' v H' x hv => ⟨F', d, rfl, x, hv⟩
    | ex ee =>
      intro F' H' x
      unfold ExW
      cases ha : ee.arg with
      | none => exact ⟨F', ee, rfl, x, rfl, by rw [ha]⟩
      | some nd =>
        obtain ⟨nm, dd⟩ := nd
        intro xx v hx' hv
        exact ⟨F', ee, rfl, x, rfl, by rw [ha]; exact ⟨xx, v, rfl, hx', hv⟩⟩
    | un => rw [← hall f, hm] at post2; exact post2
  · rintro v H' ⟨F', d, hm, x, hv⟩
    rw [eFc] at x
    obtain ⟨y1, y2, y3⟩ := ext_forth exF la.co LO.free pl x
    refine ⟨y2, ?_⟩
    rw [← hall f, hm] at post2
    have p3 : ∀ F2 v H2, Ext X.gc p F1 H1 F2 H2 → SRel X.gc p F2 H2 sp1 → DD X.gc F2 v d → Q v H2 := post2
    exact p3 _ v _ y1.weak (r1.ext y1) (y3 v d hv)
  · rintro cls dd H' ⟨F', ee, hm, x, hcls, hv⟩
    rw [eFc] at x
    obtain ⟨y1, y2, y3⟩ := ext_forth exF la.co LO.free pl x
    refine ⟨y2, ?_⟩
    rw [← hall f, hm] at post2
    have p3 : ∀ F2 H2, Ext X.gc p F1 H1 F2 H2 → ExW X.gc E ee F2 H2 := post2
    have p4 := p3 _ _ y1.weak
    unfold ExW at p4
    cases ha : ee.arg with
    | none =>
      rw [ha] at p4 hv
      have hv : dd = none := hv
      rw [hcls, hv]; exact p4
    | some nd =>
      obtain ⟨nm, d0⟩ := nd
      rw [ha] at p4 hv
      obtain ⟨xx, v, h1, h2, h3⟩ := (show ∃ xx v, dd = some xx ∧ H' xx = some (.xd [(nm, v)]) ∧ DD X.gc F' v d0 from hv)
      rw [hcls, h1]
      refine p4 xx v ?_ (y3 v d0 h3)
      rw [off_out (look_out y2 h2 (fun o z => by unfold ObO at z; cases z))]
      exact h2
  · cases r with
    | error ee => exact hx pins σ H1 s1 ee s2 I1 hq
    | ok fl =>
      cases fl with
      | ret u => exact I1.after hq
      | next => exact False.elim hq
      | brk => exact False.elim hq
      | cont => exact False.elim hq
end
end DL
end

section
set_option Elab.async false
set_option linter.all false
set_option maxRecDepth 100000
set_option maxHeartbeats 4000000
/-! The data layer, part 25: list comprehensions over zip where an exception is handled. -/
namespace DL
open PySem PySem.Spec PyProof.Rows L2 HotX
section
variable {prog : Program} {w : World} {A : Around} {E : Value → Shared → Prop} {s : Shared}
theorem hot_ne {x it : Addr} {h : Heap} (hot : HotAt A x h) {o : Obj} (e : h.get? it = some o) (d : ∀ vs, o.data = .fields vs → vs[2]? ≠ some .none) : x ≠ it := fun z => by
  obtain ⟨_, o1, vs, e1, e2, e3⟩ := hot
  rw [z, e] at e1
  cases e1
  exact d vs e2 e3
/-- the end of a list's iterator, an exception being handled -/
theorem next_hot {it l x : Addr} {i : Nat} {items : Array Value} {Q : Value → Shared → Prop} (hot : HotAt A x s.heap) (hit : s.heap.IsListIter it l i) (hl : s.heap.IsList l items) (hx : items[i]? = none)
    (hE : ∀ h' e, Heap.ExtBut it s.heap h' → (∃ o, h'.get? e = some o ∧ o.cls = .type "StopIteration") → E (.ref e) { s with heap := h' }) : wpAny (model prog w) A (Builtin.SmallTypes.nextOf (.ref it)) Q E s := by
  obtain ⟨oi, gi, ci, di⟩ := id hit
  obtain ⟨ol, gl, _, nl, dl⟩ := hl
  have nx : x ≠ it := hot_ne hot gi fun vs e => by rw [di] at e; cases e; simp
  unfold Builtin.SmallTypes.nextOf
  refine wpAny_bind (wpAny_callSpecial?_slot (name := Str.ofString "__next__") hit.typeIs slot_listiter_next (wpAny_call_entry slot_listiter_next hit.typeIs entry_listiter_next ?_ (args_listiter_next _)))
  show wpAny _ _ (field (.ref it) 0 >>= _) _ _ s; refine wpAny_bind (wpAny_field gi di (x := .ref l) rfl ?_)
  show wpAny _ _ (if (Value.ref l == Value.none) = true then _ else _) _ _ s; rw [if_neg (show ¬ ((Value.ref l == Value.none) = true) from Bool.false_ne_true)]
  show wpAny _ _ (field (.ref it) 1 >>= _) _ _ s; refine wpAny_bind (wpAny_field gi di (x := .int i 0) rfl ?_)
  show wpAny _ _ (seqItems? (.ref l) >>= _) _ _ s; refine wpAny_bind (wpAny_seqItems gl dl ?_)
  simp only [Int.toNat_natCast, hx]
  refine wpAny_bind (wpAny_rule (wpAny_bind (wpAny_setField gi di (by simp) ?_)))
  show wpAny _ _ (newExc (.type "StopIteration") [] >>= _) _ _ _; refine wpAny_bind ?_
  simp only [newExc, newTuple]; refine wpAny_bind (wpAny_newObj_type ?_ (by size_fits))
  refine wpAny_bind (m := firstArgMember _ _) (wpAny_of_eq (a := Value.none) (by first | rfl | (simp only [firstArgMember]; rfl)) ?_); refine wpAny_newObj_type ?_ (by size_fits)
  obtain ⟨hh, o1, vs1, g1, d1, c1⟩ := hot
  have k1 : ∀ b o, b ≠ it → s.heap.get? b = some o → (s.heap.update it (Obj.mapFields fun f => f.setIfInBounds 0 .none)).get? b = some o := fun b o nb e => by rw [Heap.get?_update_other _ _ (Ne.symm nb)]; exact e
  refine raiseNew_hot ⟨hh, o1, vs1, Heap.get?_push_of_some _ (Heap.get?_push_of_some _ (k1 x o1 nx g1)), d1, c1⟩ (Nat.ne_of_lt (Heap.lt_size (Heap.get?_push_of_some _ (k1 x o1 nx g1)))) (Heap.get?_push_size _ rfl) rfl (by first | (simp; done) | (simp; omega) | (simp only [Array.size_append]; simp; omega)) ?_
  refine hE _ _ (fun b o nb e => ?_) ⟨_, Heap.get?_update_self _ (Heap.get?_push_size _ rfl) rfl, rfl⟩
  rw [Heap.get?_update_other _ _ (Nat.ne_of_gt (Heap.lt_size (Heap.get?_push_of_some _ (k1 b o nb e))))]
  exact Heap.get?_push_of_some _ (Heap.get?_push_of_some _ (k1 b o nb e))
theorem draws_hot {x : Addr} {o1 : Obj} {vs1 : Array Value} (hh : A.handled = some (.ref x)) (d1 : o1.data = .fields vs1) (c1 : vs1[2]? = some .none) (it l : Addr) (hne : l ≠ it) (items : Array Value) :
    Draws prog w A it [it, l, x] items.size (fun i v => items[i]? = some v) (fun i h => h.IsListIter it l i ∧ h.IsList l items ∧ h.get? x = some o1) where
  live := fun _ _ st => let ⟨o, ho, _⟩ := st.1; ⟨o, ho⟩
  frame := fun _ _ _ st hk => ⟨st.1.at fun o e => hk it (by simp) o e, st.2.1.at fun o e => hk l (by simp) o e, hk x (by simp) _ st.2.2⟩
  item := fun i s Q E hi st hQ => by
    refine wpAny_nextOf_list_item st.1 st.2.1 (x := items[i]) (by simp [hi]) fun h' hit' hs' => hQ _ h' s.toks (by simp [hi]) ⟨hit', st.2.1.extBut hs'.extBut hne, ?_⟩ hs'
    refine hs'.extBut x _ ?_ st.2.2
    obtain ⟨oi, gi, _, di⟩ := st.1
    exact hot_ne (A := A) ⟨hh, o1, vs1, st.2.2, d1, c1⟩ gi fun vs e => by rw [di] at e; cases e; simp
  done := fun s Q E st hE => next_hot ⟨hh, o1, vs1, st.2.2, d1, c1⟩ st.1 st.2.1 (by simp) hE
end
/-! ### iterators, an exception being handled -/
structure TurnX (P : Program) (w : World) (K : PySem.W.Frag) (tg : Expr) (J : It) (fp : List Addr) (it : Addr) (tn : Nat → Heap → Prop) : Prop where
  obj : ∀ i h, tn i h → ∀ b ∈ fp, ∃ o, h.get? b = some o ∧ ∀ v, o.data ≠ .cell v
  keep : ∀ i h h', tn i h → (∀ b ∈ fp, ∀ o, h.get? b = some o → h'.get? b = some o) → tn i h'
  item : ∀ (X : Cx), X.prog = P → X.w = w → X.K = K → ∀ (i : Nat) (pins : List (Addr × Obj)) (s : Shared) (σ : L2.St) (H : Hp) (E : Value → Shared → Prop), Inv X pins σ H s → (∀ b ∈ fp, FpOk X pins H b) → tn i s.heap → J.go i H →
    wpAny (model P w) X.A (pyNext (.ref it)) (fun r s1 => ∃ u, r = some u ∧ wpAny (model P w) X.A (letOwnedTupleGo tg (.ref it) u) (fun _ s2 => ∃ x H', Inv X pins σ H' s2 ∧ L2.RelV x u ∧ J.yld i H x H' ∧ tn (i + 1) s2.heap ∧ ∀ b ∈ fp, H' b = none) E s1) E s
  done : ∀ (X : Cx), X.prog = P → X.w = w → X.K = K → ∀ (y : Addr) (i : Nat) (pins : List (Addr × Obj)) (s : Shared) (σ : L2.St) (H : Hp) (E : Value → Shared → Prop), HotAt X.A y s.heap → Inv X pins σ H s → (∀ b ∈ fp, FpOk X pins H b) → tn i s.heap → J.stop i H →
    wpAny (model P w) X.A (pyNext (.ref it)) (fun r s1 => r = none ∧ Inv X pins σ H s1) E s
  self : ∀ (A : Around) (i : Nat) (s : Shared) (Q : Value → Shared → Prop) (E : Value → Shared → Prop), tn i s.heap → Q (.ref it) s → wpAny (model P w) A (pyIter (.ref it)) Q E s
/-- as Itz, stopping in bounds -/
def ItzB (K : PySem.W.Frag) (a b : Addr) : It := ⟨(Itz K a b).go, (Itz K a b).yld, fun i H => ∃ xs ys : List V, SqL K H a xs ∧ SqL K H b ys ∧ i ≤ xs.length ∧ i ≤ ys.length ∧ (xs.length ≤ i ∨ ys.length ≤ i)⟩
theorem walk_zipB {K : PySem.W.Frag} {a b : Addr} {xs ys : List V} {n : Nat} (hn : n = min xs.length ys.length) : Walk (ItzB K a b) n (fun H => SqL K H a xs ∧ SqL K H b ys) (YPair (fun i => xs[i]?) (fun i => ys[i]?)) :=
  ⟨(walk_zip hn).goes, fun H q => ⟨xs, ys, q.1, q.2, by omega, by omega, by omega⟩, (walk_zip hn).yields⟩
theorem turnX_zip {P : Program} {w : World} {K : PySem.W.Frag} {elts : List Expr} {kk : Nat} {tpos : Pos} {a b z TI TO i1 i2 : Addr} (D : ZipApart z TI TO i1 i2 a b) :
    TurnX P w K (.Tuple elts kk tpos) (ItzB K a b) [z, TI, TO, i1, i2] z (fun i h => IsZip h z TI TO .none ∧ IsPair h TI (.ref i1) (.ref i2) ∧ (∃ x y, IsPair h TO x y) ∧ h.IsListIter i1 a i ∧ h.IsListIter i2 b i) := by
  have five : ∀ {c : Addr}, c ∈ [z, TI, TO, i1, i2] → c = z ∨ c = TI ∨ c = TO ∨ c = i1 ∨ c = i2 := fun hc => by simpa using hc
  have out : ∀ {c : Addr}, c ∉ [z, TI, TO, i1, i2] → c ≠ z ∧ c ≠ TI ∧ c ≠ TO ∧ c ≠ i1 ∧ c ≠ i2 := fun hc => by simpa using hc
  refine ⟨fun i h st c hc => ?_, fun i h h' st k => ?_, ?_, ?_, fun A i s Q E st h => wpAny_pyIter_zip st.1 h⟩
  · obtain ⟨hz, hI, ⟨x, y, hO⟩, ⟨o1, e1, _, d1⟩, ⟨o2, e2, _, d2⟩⟩ := st
    rcases five hc with rfl | rfl | rfl | rfl | rfl
    · exact ⟨_, hz, fun _ e => (nomatch e)⟩
    · exact ⟨_, hI, fun _ e => (nomatch e)⟩
    · exact ⟨_, hO, fun _ e => (nomatch e)⟩
    · exact ⟨o1, e1, fun v e => by rw [d1] at e; cases e⟩
    · exact ⟨o2, e2, fun v e => by rw [d2] at e; cases e⟩
  · obtain ⟨hz, hI, ⟨x, y, hO⟩, u1, u2⟩ := st
    exact ⟨k z (by simp) _ hz, k TI (by simp) _ hI, ⟨x, y, k TO (by simp) _ hO⟩, u1.at fun o e => k i1 (by simp) o e, u2.at fun o e => k i2 (by simp) o e⟩
  · intro X hP hw hK i pins s σ H E I hf st hg
    subst hP hw hK
    obtain ⟨hz, hI, ⟨x0, y0, hO⟩, u1, u2⟩ := st
    obtain ⟨xs, ys, x, y, sx, sy, gx, gy⟩ := hg
    obtain ⟨ls, rx, px, _⟩ := I.list sx
    obtain ⟨rs, ry, py, _⟩ := I.list sy
    obtain ⟨va, ha, ra⟩ := rx.get gx
    obtain ⟨vb, hb, rb⟩ := ry.get gy
    have zlt : z < s.heap.objs.size := Heap.lt_size hz
    refine wpAny_pyNext_zip_item D hz hI hO u1 u2 px.isList py.isList (x := va) (y := vb) (by simpa using ha) (by simpa using hb) fun g1 z1 O1 v1 v2 T1 sz1 k1 => ?_
    refine ⟨_, rfl, wpAny_letOwnedTupleGo_zip (s := { s with heap := g1 }) z1 fun g2 z2 sb => ?_⟩
    have gT : g2.get? s.heap.objs.size = some { cls := .type "tuple", data := .seq #[va, vb] } := (sb.2 _ (Nat.ne_of_gt zlt)).trans T1
    have I1 := I.turnedNew (h' := g2) (t' := s.toks) (ob := .tup [x, y]) (ch := [z, TI, TO, i1, i2]) (fun c o hc e => (sb.2 c (out hc).1).trans (k1 c o (out hc).1 (out hc).2.2.1 (out hc).2.2.2.1 (out hc).2.2.2.2 e)) hf (Nat.le_refl _)
      ⟨show 2 ≤ sizeLine by decide, [va, vb], .cons ra (.cons rb .nil), ⟨_, gT, rfl, _, rfl⟩⟩
    refine ⟨.ref s.heap.objs.size, _, I1, rfl, ⟨_, x, y, rfl, I.hok.fresh (Nat.le_refl _), rfl, fun l hl => by rw [I.list_inj hl sx]; exact gx, fun l hl => by rw [I.list_inj hl sy]; exact gy⟩, ⟨z2, (sb.2 _ D.TIz).trans (k1 _ _ D.TIz D.TITO D.TIi1 D.TIi2 hI), ⟨va, vb, (sb.2 _ D.TOz).trans O1⟩, v1.at fun o e => (sb.2 _ D.i1z).trans e, v2.at fun o e => (sb.2 _ D.i2z).trans e⟩, fun c hc => ?_⟩
    have clt : c < s.heap.objs.size := by
      rcases five hc with rfl | rfl | rfl | rfl | rfl
      · exact zlt
      · exact Heap.lt_size hI
      · exact Heap.lt_size hO
      · obtain ⟨_, e1, _⟩ := u1; exact Heap.lt_size e1
      · obtain ⟨_, e2, _⟩ := u2; exact Heap.lt_size e2
    rw [upd_ne (Nat.ne_of_lt clt)]
    exact (hf c hc).1
  · intro X hP hw hK yy i pins s σ H E hot I hf st hg
    subst hP hw hK
    obtain ⟨hz, hI, ⟨x0, y0, hO⟩, u1, u2⟩ := st
    obtain ⟨xs, ys, sx, sy, le1, le2, hend⟩ := hg
    obtain ⟨ls, rx, px, _⟩ := I.list sx
    obtain ⟨rs, ry, py, _⟩ := I.list sy
    have l1 := rx.length
    have l2 := ry.length
    obtain ⟨hh, o1, vs1, g1, d1, c1⟩ := id hot
    have nz : yy ≠ z := hot_ne hot hz fun vs e => by cases e; simp
    have nO : yy ≠ TO := hot_ne hot hO fun vs e => by cases e
    have hh1 : X.A.in1.handled = some (.ref yy) := hh
    have S : ZipSep2 z TI TO i1 i2 [i1, a, yy] [i2, b, yy] := by
      have n1 : yy ≠ i1 := by obtain ⟨_, e1, _, d⟩ := u1; exact hot_ne hot e1 fun vs e => by rw [d] at e; cases e; simp
      have n2 : yy ≠ i2 := by obtain ⟨_, e1, _, d⟩ := u2; exact hot_ne hot e1 fun vs e => by rw [d] at e; cases e; simp
      refine ⟨D.TIz, D.TOz, D.TITO, D.TIi1, by simp, ?_, ?_, D.TIi2, by simp, ?_, ?_, ?_, ?_⟩ <;> simp only [List.mem_cons, List.not_mem_nil, or_false, not_or]
      · exact ⟨D.i1z.symm, D.l1z.symm, nz.symm⟩
      · exact ⟨D.TOi1, D.l1TO.symm, nO.symm⟩
      · exact ⟨D.i2z.symm, D.l2z.symm, nz.symm⟩
      · exact ⟨D.TOi2, D.l2TO.symm, nO.symm⟩
      · exact ⟨D.i12, D.l2i1.symm, n1.symm⟩
      · exact ⟨D.i12.symm, D.l1i2.symm, n2.symm⟩
    exact wpAny_pyNext_zipD2_end S (draws_hot hh1 d1 c1 i1 a D.l1i1 ls.toArray) (draws_hot hh1 d1 c1 i2 b D.l2i2 rs.toArray) hz hI hO ⟨u1, px.isList, g1⟩ ⟨u2, py.isList, g1⟩ (by simp; omega) (by simp; omega) (by simp; omega)
      fun h' tk hk => ⟨rfl, I.turnedL (t' := tk) (ch := [z, TI, TO, i1, i2]) (fun c o hc e => hk c o (out hc).1 (out hc).2.2.1 (out hc).2.2.2.1 (out hc).2.2.2.2 e) hf⟩
/-! ### comprehensions -/
def PIEX (X : Cx) (pins : List (Addr × Obj)) (σ : L2.St) (tg : Expr) (R : It → Hp → Prop) (itv : Value) (s2 : Shared) : Prop :=
  ∃ (it : Addr) (fp : List Addr) (tn : Nat → Heap → Prop) (J : It) (H' : Hp), itv = .ref it ∧ Inv X pins σ H' s2 ∧ TurnX X.prog X.w X.K tg J fp it tn ∧ tn 0 s2.heap ∧ (∀ b ∈ fp, FpOk X pins H' b) ∧ R J H'
structure PIX (X : Cx) (tg iter : Expr) (wi : TI) : Prop where
  run : ∀ (pins : List (Addr × Obj)) (s : Shared) (σ : L2.St) (H : Hp) (R : It → Hp → Prop), Inv X pins σ H s → wi σ H R → wpAny (model X.prog X.w) X.A (eval iter X.env) (fun v s1 => wpAny (model X.prog X.w) X.A (pyIter v) (PIEX X pins σ tg R) X.xe s1) X.xe s
def iZipB (K : PySem.W.Frag) (ta : TA) : TI := fun σ H R => ta σ H fun vs H1 => ∃ a b xs ys, vs = [.ref a, .ref b] ∧ SqL K H1 a xs ∧ SqL K H1 b ys ∧ R (ItzB K a b) H1
theorem pix_zip {X : Cx} {e e2 : Expr} {ta : TA} {p pos tpos : Pos} {elts : List Expr} {kk : Nat} (hg : Gl X "zip") (hm : X.mg "zip" = none) (ha : L2.PA X [e, e2] ta)
    (hs : starEach [e, e2] X.env = (false, eval e X.env) :: starEach [e2] X.env := by rfl) (hpl : (backTo pos (starEach [e2] X.env)).any (·.1) = false := by rfl) : PIX X (.Tuple elts kk tpos) (.Call (.Name "zip" p) [e, e2] [] pos) (iZipB X.K ta) := by
  refine ⟨fun pins s σ H R I hw => Call_ (ld_blt I hg hm PyProof.Rows.boot_zip (PyProof.Rows.callWith_type1 (thn (ha.run pos pins s σ H _ I hw) fun us s1 ⟨vs, H1, I1, rv, q1⟩ => ?_) hs hpl))⟩
  obtain ⟨a, b, xs, ys, rfl, sx, sy, q⟩ := q1
  obtain ⟨u1, u2, rfl, r1, r2⟩ : ∃ u1 u2, us = [u1, u2] ∧ L2.RelV (.ref a) u1 ∧ L2.RelV (.ref b) u2 := by
    cases rv with
    | cons r rr => cases rr with
      | cons r' rr => cases rr; exact ⟨_, _, rfl, r, r'⟩
  cases r1
  cases r2
  obtain ⟨ls, _, px, _⟩ := I1.list sx
  obtain ⟨rs, _, py, _⟩ := I1.list sy
  refine call_zip_2 px.isList py.isList fun g hz hI hO v1 v2 sz hk => wpAny_pyIter_zip hz ⟨_, _, _, _, H1, rfl, I1.kept (t' := s1.toks) hk, turnX_zip (PySem.W.ktu_apart s1.heap.objs.size a b px.lt py.lt), ⟨hz, hI, ⟨_, _, hO⟩, v1, v2⟩, fun c hc => ?_, q⟩
  have hle : s1.heap.objs.size ≤ c := by
    simp only [List.mem_cons, List.not_mem_nil, or_false] at hc
    rcases hc with rfl | rfl | rfl | rfl | rfl <;> omega
  exact I1.fpOk hle (I1.hok.fresh hle)
/-- a block within a suite: the handled exception stands out of its reach -/
def HotB (Y : Cx) : Prop := ∃ y : Addr × Obj, L2H.Hot1 Y.A y ∧ Y.s_0.heap.get? y.1 = some y.2 ∧ Y.H_0 y.1 = none ∧ y.1 ∉ Y.fs ∧ y.1 ∉ Y.ex
theorem HotB.at {Y : Cx} (h : HotB Y) (pins : List (Addr × Obj)) (σ : L2.St) (H : Hp) (s : Shared) (I : Inv Y pins σ H s) : ∃ x, HotAt Y.A x s.heap := by
  obtain ⟨y, ⟨hh, vs1, d1, c1⟩, h1, h2, h3, h4⟩ := h
  exact ⟨y.1, hh, y.2, vs1, I.base.keep y.1 y.2 h1 h2 h3 h4, d1, c1⟩
theorem pe_lcX {X : Cx} {elt tg iter : Expr} {ifs : List Expr} {scope : Scope} {own : List (Str × Nat)} {pos : Pos} {wi : TI} {g : TG} {tt : TT} {te : TE} (hot : L2H.HotC X) (hN : X.N.Nodup) (hi : PIX X tg iter wi) (ok : BlkOk X.N X.env.scope scope own)
    (hg : ∀ (s : Shared) (H : Hp) (C : Addr) (cl : List (Str × Addr)) (fp : List Addr), HotB (X.blk s H scope (compEnvC scope cl C X.env) fp) → PG (X.blk s H scope (compEnvC scope cl C X.env) fp) tg g) (ht : ∀ (s : Shared) (H : Hp) (C : Addr) (cl : List (Str × Addr)) (fp : List Addr), PTs (X.blk s H scope (compEnvC scope cl C X.env) fp) ifs tt)
    (he : ∀ (s : Shared) (H : Hp) (C : Addr) (cl : List (Str × Addr)) (fp : List Addr), PE (X.blk s H scope (compEnvC scope cl C X.env) fp) elt te) (hs : ∀ x, foldedSetIterable iter X.env x = pure x := by intro _; rfl) :
    PE X (.ListComp elt [⟨tg, iter, ifs, 0⟩] scope pos) (tLc wi g tt te (own.map (·.2))) := by
  refine ⟨fun pins s0 σ H0 Q I0 hw => ?_⟩
  rw [eval_ListComp]
  obtain ⟨y, ⟨hh, vs1, d1, c1⟩, hy⟩ := hot
  have fre : ∀ z ∈ scope.names, z.2 = .free → ∃ c, X.env.cells.lookup z.1 = some c := fun z hz e => (ok.free z hz e).elim (fun k => I0.ok.has _ (.inl k)) fun k => I0.ok.has _ (.inr k)
  refine wpAny_comprehension_free rfl hs (closure_ok fre) ok.kind (fun z hz e => by rw [ok.uniq z hz, e]) (thn (hi.run pins s0 σ H0 _ I0 hw) fun _ s1 h1 => thn h1 fun _ s2 h2 => ?_)
  obtain ⟨it, fp, tn, J, H2, rfl, I2, T, st2, f2, q⟩ := h2
  refine wpAny_newObj_type (newEnv_comp ?_) (show 0 ≤ sizeLine by decide)
  obtain ⟨D, hD⟩ : ∃ D, D = s2.heap.objs.size := ⟨_, rfl⟩
  rw [← hD]
  have nD : H2 D = none := I2.hok.fresh (Nat.le_of_eq hD.symm)
  obtain ⟨W, ⟨m0, w0⟩, turn⟩ := q D nD
  obtain ⟨s3, hs3⟩ : ∃ s3 : Shared, s3 = { s2 with heap := s2.heap.push { cls := .type "list", data := .seq ([] : List Value).toArray } } := ⟨_, rfl⟩
  rw [← hs3]
  have hp3 : s3.heap = s2.heap.push { cls := .type "list", data := .seq ([] : List Value).toArray } := by rw [hs3]
  have I3 : Inv X pins σ (upd H2 D (.lst [])) s3 := by
    rw [hs3]
    exact I2.laid (t' := s2.toks) (fun b o e => Heap.get?_push_of_some _ e) (Nat.le_of_eq hD.symm) ⟨Nat.zero_le _, [], 0, .nil, by rw [hD]; exact Heap.get?_push_size _ rfl⟩
  have f3 : ∀ b ∈ fp, FpOk X pins (upd H2 D (.lst [])) b ∧ b < s3.heap.objs.size := fun b hb => by
    obtain ⟨o, e, _⟩ := T.obj _ _ st2 b hb
    have lt := Heap.lt_size e
    exact ⟨⟨by rw [upd_ne (by rw [hD]; exact Nat.ne_of_lt lt)]; exact (f2 b hb).1, (f2 b hb).2⟩, by rw [hp3, Heap.size_push]; exact Nat.lt_succ_of_lt lt⟩
  have st3 : tn 0 s3.heap := T.keep _ _ _ st2 fun b _ o e => by rw [hp3]; exact Heap.get?_push_of_some _ e
  have I4 := block_start I3 ok hN f3
  have y3 := I3.pin y (List.mem_append_left _ hy)
  have yst : y.1 ∉ frs X.stack := fun hm => (List.mem_cons.mp (I3.stkSub y.1 hm)).elim y3.2.2.1 y3.2.2.2.1
  have yfp : y.1 ∉ fp := fun hm => (f3 y.1 hm).1.2.2.2.2.2 y (List.mem_append_left _ hy) rfl
  obtain ⟨H3, hH3⟩ : ∃ H3, H3 = upd H2 D (.lst []) := ⟨_, rfl⟩
  rw [← hH3] at I3 I4 w0 f3 y3
  obtain ⟨ce, hce⟩ : ∃ ce, ce = compEnvC scope (cellsFrom (s3.heap.objs.size + 1) scope.names (cloFrom X.env.cells scope.names [])) s3.heap.objs.size X.env := ⟨_, rfl⟩
  have pg := hg s3 H3 s3.heap.objs.size (cellsFrom (s3.heap.objs.size + 1) scope.names (cloFrom X.env.cells scope.names [])) fp ⟨y, ⟨hh, vs1, d1, c1⟩, y3.1, y3.2.1, yst, yfp⟩
  have pt := ht s3 H3 s3.heap.objs.size (cellsFrom (s3.heap.objs.size + 1) scope.names (cloFrom X.env.cells scope.names [])) fp
  have pe := he s3 H3 s3.heap.objs.size (cellsFrom (s3.heap.objs.size + 1) scope.names (cloFrom X.env.cells scope.names [])) fp
  show codeAny _ _ (.compStart (.ListComp elt [⟨tg, iter, ifs, 0⟩] scope pos) 0 (.ref it) (.ref D) (compEnvC scope (cellsFrom (s3.heap.objs.size + 1) scope.names (cloFrom X.env.cells scope.names [])) s3.heap.objs.size X.env)) _ _
  rw [← hce] at I4 pg pt pe ⊢
  have cL : ce.locals = s3.heap.objs.size := by rw [hce]; rfl
  obtain ⟨s4, hs4⟩ : ∃ s4 : Shared, s4 = { s3 with heap := pushCells (s3.heap.push { cls := .type "dict", data := .dict #[] }) scope.names } := ⟨_, rfl⟩
  rw [← hs4] at I4 ⊢
  have st4 : tn 0 s4.heap := T.keep _ _ _ st3 fun b _ o e => by rw [hs4]; exact pushCells_keeps _ _ _ _ (Heap.get?_push_of_some _ e)
  have stat : ∀ {σ' : L2.St} {H' : Hp} {s' : Shared}, Inv (X.blk s3 H3 scope ce fp) [] σ' H' s' → (∀ b ∈ fp, H' b = none) → ∀ b ∈ fp, FpOk (X.blk s3 H3 scope ce fp) [] H' b := fun {σ' H' s'} J' hn b hb =>
    ⟨hn b hb, (J'.ok.exf b hb).1, J'.ok.exfs b hb, .inl hb, fun x c e => (J'.ok.exf b hb).2 x c e, fun p hp => absurd (show p ∈ ([] : List (Addr × Obj)) ++ [] from hp) (by simp)⟩
  refine (fun loop => codeAny_compStart_list loop (T.self X.A 0 _ _ _ st4 loop)) ?_
  refine compLoop_any (fun n s' => ∃ i H', Inv (X.blk s3 H3 scope ce fp) [] (wipe σ (own.map (·.2))) H' s' ∧ tn i s'.heap ∧ (∀ b ∈ fp, H' b = none) ∧ W i n H') ?_ m0 ⟨0, H3, I4, st4, fun b hb => (f3 b hb).1.1, w0⟩
  rintro n s5 ⟨i, H5, I5, st5, n5, w5⟩
  have hot5 : HotAt (X.blk s3 H3 scope ce fp).A y.1 s5.heap := ⟨hh, y.2, vs1, I5.base.keep y.1 y.2 y3.1 y3.2.1 yst yfp, d1, c1⟩
  rcases turn i n H5 w5 with ⟨stop, qq⟩ | ⟨go, Nx, hNx, step⟩
  · refine thnF (T.done (X.blk s3 H3 scope ce fp) rfl rfl rfl y.1 i [] s5 _ H5 (fun _ _ => False) hot5 I5 (stat I5 n5) st5 stop) fun r s6 ⟨hr, I6⟩ => ?_
    subst hr
    have I7 : Inv X pins σ H5 s6 := I3.call' (ch := fp) I6.os I6.base I6.hok I6.bare fun b hb => ⟨(f3 b hb).1.2.2.2.1, (f3 b hb).1.2.1, (f3 b hb).1.2.2.2.2.1, (f3 b hb).1.2.2.2.2.2⟩
    obtain ⟨m, hn, _⟩ := I6.loc
    have hn' : s6.heap.Ns s3.heap.objs.size m := by rw [← cL]; exact hn
    have nC : H5 s3.heap.objs.size = none := by rw [← cL]; exact I6.free
    obtain ⟨k0, k1, k2, k3, k4, k5⟩ := I3.fpOk (Nat.le_refl _) nC
    exact ⟨m, hn', fun g sb => ⟨.ref D, H5, I7.turned (t' := s6.toks) (fun b o hb e => (sb.2 b hb).trans e) k0 k1 k3 k4 k5, rfl, qq⟩⟩
  · refine thnF (T.item (X.blk s3 H3 scope ce fp) rfl rfl rfl i [] s5 _ H5 (fun _ _ => False) I5 (stat I5 n5) st5 go) fun r s6 ⟨u, hr, h6⟩ => ?_
    subst hr
    refine thnF h6 fun _ s7 ⟨x, H7, I7, r7, y7, st7, n7⟩ => ?_
    refine thnF (pg.run _ s7 _ H7 x u _ (I7.pinned (stat I7 n7) (T.obj _ _ st7)) r7 (step x H7 y7)) fun _ s8 ⟨σ8, H8, I8, hw8, q8⟩ => ?_
    refine thnF (pt.run _ s8 σ8 H8 _ I8 q8) fun b s9 ⟨H9, I9, q9⟩ => ?_
    have fin : ∀ {s' : Shared} {H' : Hp}, Inv (X.blk s3 H3 scope ce fp) ([] ++ pinsAt fp s7.heap) σ8 H' s' → Nx H' → ∃ m, m < n ∧ ∃ i H', Inv (X.blk s3 H3 scope ce fp) [] (wipe σ (own.map (·.2))) H' s' ∧ tn i s'.heap ∧ (∀ b ∈ fp, H' b = none) ∧ W i m H' := fun {s' H'} J' nx => by
      obtain ⟨m', hm, w'⟩ := hNx H' nx
      have stay : ∀ b ∈ fp, ∀ o, s7.heap.get? b = some o → s'.heap.get? b = some o ∧ H' b = none := fun b hb o e =>
        have z := J'.pin (b, o) (List.mem_append_right _ (List.mem_append_right _ (mem_pinsAt hb e)))
        ⟨z.1, z.2.1⟩
      refine ⟨m', hm, i + 1, H', (J'.unpinned (pins := [])).weak (by rw [← hw8, wipe_length]) (fun j v e => by rw [← hw8] at e; exact (wipe_some e).1), T.keep _ _ _ st7 fun b hb o e => (stay b hb o e).1, fun b hb => ?_, w'⟩
      obtain ⟨o, e, _⟩ := T.obj _ _ st7 b hb
      exact (stay b hb o e).2
    cases b with
    | false =>
      simp only [Bool.false_eq_true, if_false] at q9 ⊢
      exact fin I9 q9
    | true =>
      simp only [if_true] at q9 ⊢
      exact thnF (pe.run _ s9 σ8 H9 _ I9 q9) fun z s10 ⟨yv, H10, I10, r10, acc, hD10, hz10, nx⟩ => app_ok (X := X.blk s3 H3 scope ce fp) I10 hD10 hz10 r10 fun s11 I11 => fin I11 nx
end DL
end

section
set_option Elab.async false
set_option linter.all false
set_option maxRecDepth 100000
set_option maxHeartbeats 4000000
/-! The data layer, part 26: join; comprehensions, isinstance and defs where an exception is handled. -/
namespace DL
open PySem PySem.Spec PyProof.Rows L2
/-! ### join -/
def strsOf : List D → Option (List Str)
  | [] => some []
  | .str x :: r => (strsOf r).map (x :: ·)
  | _ => none
def joinD : D → D → Option D
  | .str x, .list ds => (strsOf ds).bind fun ys => if decide ((ys.map (·.length)).sum + ys.length * x.length ≤ 1000000) then some (.str (Txt.join x ys)) else none
  | _, _ => none
theorem strsOf_eq : ∀ {ds : List D} {ys : List Str}, strsOf ds = some ys → ds = ys.map .str
  | [], ys, h => by cases h; rfl
  | d :: ds, ys, h => by
    cases d with
    | str x =>
      unfold strsOf at h
      cases q : strsOf ds with
      | none => rw [q] at h; cases h
      | some zs => rw [q] at h; cases h; rw [strsOf_eq q]; rfl
    | _ => cases h
theorem DDs.strs {G : GC} {F : Hp} : ∀ {ys : List Str} {vs : List V}, DDs G F vs (ys.map .str) → vs = ys.map V.str
  | [], _, .nil => rfl
  | y :: ys, _, .cons h t => by rw [h.inv_str, DDs.strs t]; rfl
def isStr : D → Bool
  | .str _ => true
  | _ => false
def eJoin (fa fb : EM) : EM := fun ρ s => (fa ρ s).bind fun x => if isStr x.1 then (fb ρ x.2).bind fun y => ofO (joinD x.1 y.1) y.2 else .un
theorem isStr_some {d : D} (h : isStr d = true) : ∃ x, d = .str x := by
  cases d with
  | str x => exact ⟨x, rfl⟩
  | _ => cases h
section
variable {X : Cx} {p : Option PQ} {E : XK} {e o : Expr} {f g : EM} {pos apos : Pos}
theorem pd_join (ho : PED X p E o f) (he : PED X p E e g) (hs : starEach [e] X.env = [(false, eval e X.env)] := by rfl) (hbase : attributeBase o "join" X.env (eval o X.env) = eval o X.env := by rfl) (hline : (apos.endLine == pos.line) = true := by rfl) :
    PED X p E (.Call (.Attribute o "join" apos) [e] [] pos) (eJoin f g) :=
  pe_imp (pe_join ho he hs hbase hline) fun σ H Q ⟨F, ρ, s, pre, post⟩ => ⟨F, ρ, s, pre, Post.bind post fun d1 s1 F1 x H1 e1 x1 r1 q1 post1 => by
    cases hx : isStr d1 with
    | false => simp only [hx] at post1; exact post1.elim
    | true =>
      simp only [hx, if_true] at post1
      obtain ⟨a, rfl⟩ := isStr_some hx
      rw [q1.inv_str]
      refine ⟨⟨a, rfl⟩, F1, ρ, s1, pre.next x1 r1, Post.bind post1 fun d2 s2 F2 y H2 e2 x2 r2 q2 post2 => ?_⟩
      obtain ⟨z, ez, post3⟩ := ofO_post post2
      cases d2 with
      | list ds =>
        have ez' : ((strsOf ds).bind fun ys => if decide ((ys.map (·.length)).sum + ys.length * a.length ≤ 1000000) then some (PyData.str (Txt.join a ys)) else none) = some z := ez
        cases hz : strsOf ds with
        | none => rw [hz] at ez'; cases ez'
        | some ys =>
          rw [hz] at ez'
          have e3 := strsOf_eq hz
          subst e3
          obtain ⟨hlen, rfl⟩ := ifSome (show (if decide ((ys.map (·.length)).sum + ys.length * a.length ≤ 1000000) = true then some (PyData.str (Txt.join a ys)) else none) = some z from ez')
          cases q2 with
          | @lst p' vs _ h1 h2 =>
            have ev := h2.strs
            subst ev
            exact ⟨a, p', ys, rfl, rfl, .inl (ex_l x2.fh h1), Nat.le_trans (of_decide_eq_true hlen) (by decide), post_end post3 r2 _ _ _ (Ext.refl x2.fh) (.str _)⟩
      | _ => simp [joinD] at ez⟩
end
/-! ### where an exception is handled -/
/-- zip of two lists only -/
def zip2L : List D → Option (List D)
  | [.list xs, .list ys] => some (zipD xs ys)
  | _ => none
theorem zip2L_some {ds z : List D} (h : zip2L ds = some z) : ∃ xs ys, ds = [.list xs, .list ys] ∧ zipD xs ys = z := by
  unfold zip2L at h
  split at h
  · exact ⟨_, _, rfl, Option.some.inj h⟩
  · cases h
def wZipL (f : AM) : WM := wRng zip2L f
section
variable {X : Cx} {p : Option PQ} {E : XK} {tg : Expr}
theorem pix_imp {e : Expr} {t t' : TI} (h : PIX X tg e t) (k : ∀ σ H Q, t' σ H Q → t σ H Q) : PIX X tg e t' := ⟨fun pins s σ H Q I hw => h.run pins s σ H Q I (k σ H Q hw)⟩
theorem pixd_zip {e e2 : Expr} {f : AM} {q pos tpos : Pos} {elts : List Expr} {kk : Nat} (hg : Gl X "zip") (hm : X.mg "zip" = none) (ha : PAD X p E [e, e2] f)
    (hs : starEach [e, e2] X.env = (false, eval e X.env) :: starEach [e2] X.env := by rfl) (hpl : (backTo pos (starEach [e2] X.env)).any (·.1) = false := by rfl) : PIX X (.Tuple elts kk tpos) (.Call (.Name "zip" q) [e, e2] [] pos) (iD X.gc p E (wZipL f)) :=
  pix_imp (pix_zip hg hm ha hs hpl) fun σ H Q ⟨F, ρ, s, pre, post⟩ => ⟨F, ρ, s, pre, Post.bind post fun d1 s1 F1 x H1 e1 x1 r1 q1 post1 => by
    obtain ⟨z, ez, post2⟩ := ofO_post post1
    obtain ⟨xs, ys, hd, rfl⟩ := zip2L_some ez
    have hd' : d1 = [.list xs, .list ys] := hd
    subst hd'
    obtain ⟨v, w, rfl, hv, hw⟩ := DDs.two_inv q1
    cases hv with
    | lst a1 a2 =>
      cases hw with
      | lst b1 b2 => exact ⟨_, _, _, _, rfl, ex_l x1.fh a1, ex_l x1.fh b1, Post.okI post2 x1.fh r1 (wk_zip (walk_zipB rfl) (fun F2 H2 g1 g2 => ⟨ex_l g2 (ex_l g1 a1), ex_l g2 (ex_l g1 b1)⟩) a2 b2)⟩⟩
theorem pd_lcX {elt iter : Expr} {ifs : List Expr} {scope : Scope} {own : List (Str × Nat)} {pos : Pos} {f : WM} {t : RtM} {c : TM} {e : EM} (hot : L2H.HotC X) (hN : X.N.Nodup) (hi : PIX X tg iter (iD X.gc p E f)) (ok : BlkOk X.N X.env.scope scope own)
    (hg : ∀ (s : Shared) (H : Hp) (C : Addr) (cl : List (Str × Addr)) (fp : List Addr), HotB (X.blk s H scope (compEnvC scope cl C X.env) fp) → PG (X.blk s H scope (compEnvC scope cl C X.env) fp) tg (tgR X.gc (own.map (·.2)) t)) (ht : ∀ (s : Shared) (H : Hp) (C : Addr) (cl : List (Str × Addr)) (fp : List Addr), PTs (X.blk s H scope (compEnvC scope cl C X.env) fp) ifs (tDB X.gc p E0 c))
    (he : ∀ (s : Shared) (H : Hp) (C : Addr) (cl : List (Str × Addr)) (fp : List Addr), PE (X.blk s H scope (compEnvC scope cl C X.env) fp) elt (tD X.gc p E0 e)) (hs : ∀ x, foldedSetIterable iter X.env x = pure x := by intro _; rfl) : PED X p E (.ListComp elt [⟨tg, iter, ifs, 0⟩] scope pos) (eLc f (own.map (·.2)) t c e) :=
  pe_imp (pe_lcX hot hN hi ok hg ht he hs) fun _ _ _ h => tLc_of h
end
/-! isinstance of the exception that is handled -/
/-- the exception at a is of the class cls, without attributes of its own -/
def ExO (K : PySem.W.Frag) (p : Addr × Obj) (c : Str) : Prop := L2N.Zn (.ref (He.ga K c)) none p.2 ∧ ∃ vs, p.2.data = .fields vs
def eIsE (a : Addr) (i : Nat) (b : Bool) : EM := fun ρ s => match ρ[i]? with
  | some (some d) => if isSp a d then .ok (.bool b, s) else .un
  | _ => .un
section
variable {X : Cx} {p : Option PQ} {E : XK}
theorem isE_run {pins : List (Addr × Obj)} {σ : L2.St} {H : Hp} {s : Shared} {Q : VK} {y : Addr × Obj} {c : Str} {cv : Value} {b : Bool} (hy : y ∈ X.pn) (C : ExcC X.K (He.ga X.K c)) (z : ExO X.K y c) (e : PySem.W.kitOne X.K (.ref (He.ga X.K c)) cv = some b) (I : Inv X pins σ H s) (q : Q (.bl b) H) :
    wpAny (model X.prog X.w) X.A (call (.builtin "isinstance") [.ref y.1, cv]) (EP X pins σ Q) X.xe s := by
  obtain ⟨⟨z1, z2, _⟩, vs, z3⟩ := z
  have g := (I.pin y (List.mem_append_left _ hy)).1
  have J : PySem.W.InstAt s.heap y.1 y.2 (He.ga X.K c) none := by
    obtain ⟨ya, ⟨oc, od, dt, sl⟩⟩ := y
    dsimp only at z1 z2 z3 g ⊢
    subst z1 z2 z3
    exact ⟨g, rfl, rfl, trivial⟩
  exact PySem.W.kia_one (PySem.W.handS_kitx_exc C.hg C.hk C.hs C.hd C.ha C.hn C.ht C.hm) I.kIn J e (fun w => nomatch w) fun tk => ⟨.bl b, H, I.kept (t' := tk) fun _ _ w => w, rfl, q⟩
theorem pd_isE {x : Expr} {i : Nat} {y : Addr × Obj} {c cn : Str} {cv : V} {cu : Value} {b : Bool} {pos q q2 : Pos} (hy : y ∈ X.pn) (C : ExcC X.K (He.ga X.K c)) (z : ExO X.K y c) (e : PySem.W.kitOne X.K (.ref (He.ga X.K c)) cu = some b) (hx : PE X x (tVar i)) (hn : PE X (.Name cn q2) (tC cv)) (hu : ∀ u, L2.RelV cv u → u = cu)
    (hg : Gl X "isinstance") (hm : X.mg "isinstance" = none) (hs : starEach [x, .Name cn q2] X.env = (false, eval x X.env) :: starEach [.Name cn q2] X.env := by rfl) (hpl : (backTo pos (starEach [.Name cn q2] X.env)).any (·.1) = false := by rfl) :
    PED X p E (.Call (.Name "isinstance" q) [x, .Name cn q2] [] pos) (eIsE y.1 i b) := by
  have hc : CallR X (.builtin "isinstance") (fun vs H Q => vs = [.ref y.1, cv] ∧ Q (.bl b) H) := fun pins s σ H xs us Q I r h => by
    obtain ⟨rfl, h⟩ := h
    obtain ⟨u1, u2, rfl, r1, r2⟩ : ∃ u1 u2, us = [u1, u2] ∧ L2.RelV (.ref y.1) u1 ∧ L2.RelV cv u2 := by
      cases r with
      | cons r1 r => cases r with
        | cons r2 r => cases r; exact ⟨_, _, rfl, r1, r2⟩
    cases r1
    rw [hu u2 r2]
    exact isE_run hy C z e I h
  refine pe_imp (pe_callB hc hg hm (by decide +kernel) (pa_cons hx (pa_cons hn pa_nil) hs) (by decide) (by decide) hs hpl) fun σ H Q ⟨F, ρ, s, pre, post⟩ => ?_
  unfold eIsE at post
  cases hj : ρ[i]? with
  | none => rw [hj] at post; exact post.elim
  | some o =>
    cases o with
    | none => rw [hj] at post; exact post.elim
    | some d =>
      rw [hj] at post
      cases hq : isSp y.1 d with
      | false => simp only [hq] at post; exact post.elim
      | true =>
        simp only [hq, if_true] at post
        obtain ⟨v, h1, h2⟩ := pre.rd i d hj
        obtain ⟨rfl, rfl⟩ := isSp_opq h2 hq
        exact ⟨_, h1, rfl, Post.okI post pre.ex pre.sr (.bl b)⟩
end
/-! ### defs where an exception is handled -/
structure FnX (P : Program) (w : World) (K : PySem.W.Frag) (mg : Str → Option Value) (base : Heap) (CX : CXT) (k : Nat) (f : Addr) (fd : FuncData) (ps : List Str) (sp : Addr × Obj → Sp) : Prop where
  len : ∀ y vs H Q E, sp y vs H Q E → vs.length = ps.length
  run : ∀ (A : Around) (outer : List PySem.Env) (s : Shared) (H : Hp) (args : Args) (us : List Value) (vs : List V) (Q : VK) (E : XK) (y : Addr × Obj), L2H.RoomH k A → L2H.Hot1 A y → L2H.PinOk outer H s y → Env0 P w K mg base A outer s H → BindsTo s fd args (ps.zip us) → Vals vs us → sp y vs H Q E →
    codeAny (model P w) A (.call (.ref f) args) (CR CX outer P w H s Q E) s
theorem fnX_of {CX : CXT} {P : Program} {w : World} {K : PySem.W.Frag} {mg : Str → Option Value} {base : Heap} {k : Nat} {f : Addr} {name qual : Str} {params : Arguments} {body : List Stmt} {scope : Scope} {dV kV doc pm cdv ct oc : Value} {an od : Option Addr}
    {osl : Array (Option Value)} {N ps : List Str} {sp : Addr × Obj → Sp} (lk : K.lookup f = some ⟨oc, od, .func (PySem.W.fnOf name qual params body scope dV kV doc pm an cdv ct), osl⟩) (hcd : PySem.W.codeIn K cdv qual = true) (S : FnScope N ps scope) (len : ∀ y vs H Q E, sp y vs H Q E → vs.length = ps.length)
    (hbody : ∀ (A : Around) (outer : List PySem.Env) (s : Shared) (H : Hp) (vs : List V) (Q : VK) (E : XK) (y : Addr × Obj), L2H.Hot1 A y → L2H.RoomH k (A.deeper (envOfC qual scope s.heap.objs.size f cdv)) → sp y vs H Q E →
      ∃ t, PSs (L2H.cxH CX P w K mg base N qual scope f cdv A outer s H E y) body t ∧ t { nx := fun _ H' => Q .non H', rt := Q } (L2.start N vs) H) : FnX P w K mg base CX (k + 1) f (PySem.W.fnOf name qual params body scope dV kV doc pm an cdv ct) ps sp := by
  refine ⟨len, fun A outer s H args us vs Q E y hr hot hpin e0 hb r hsp => ?_⟩
  have hl := len _ _ _ _ _ hsp
  have hk : ∀ z ∈ ps.zip us, scope.names.lookup z.1 = some .local ∨ (scope.names.lookup z.1 = some .cell ∧ ((cellsFrom (s.heap.objs.size + 1) scope.names []).lookup z.1).isSome = true) := fun ⟨z, v⟩ hz =>
    (S.par z (List.of_mem_zip hz).1).imp id fun q => ⟨q, PySem.W.cellsFrom_some _ _ _ (.inl q)⟩
  have KX : K.In s.heap := e0.mod.kin.keeps fun b o e => (e0.bs b o e).1
  refine codeAny_call_function hr.depth (KX _ _ lk) rfl S.co S.gen rfl (PySem.W.codeRec_of KX hcd) (hb _ _ _ _ (wpAny_newFunctionEnv_cells S.kind hk fun env he s1 x => ?_))
  subst he
  refine ⟨(e0.mod.nolimit.keeps fun b o e => (e0.bs b o e).1).keeps x.toInCall.keep, codeAny_func ?_⟩
  obtain ⟨t, ht, hq⟩ := hbody A outer s H vs Q E y hot (hr.deeper _) hsp
  refine wpAny_mono (ht.run [] s1 (L2.start N vs) H _ (L2H.inv_startH S hpin e0 hl r x) hq) (fun fl s' hs => ?_) fun e s' hs => hs
  cases fl with
  | ret u => obtain ⟨v, σ', H', J, rv, q⟩ := hs; exact ⟨v, H', J.os, J.bare, J.base, J.hok, rv, q⟩
  | next => obtain ⟨σ', H', J, q⟩ := hs; exact ⟨.non, H', J.os, J.bare, J.base, J.hok, rfl, q⟩
  | brk => obtain ⟨_, _, _, q⟩ := hs; exact q.elim
  | cont => obtain ⟨_, _, _, q⟩ := hs; exact q.elim
end DL
end

section
set_option Elab.async false
set_option linter.all false
set_option maxRecDepth 100000
set_option maxHeartbeats 4000000
/-! The data layer, part 27: several except clauses with a name; a call whose error is told. -/
namespace DL
open PySem PySem.Spec PyProof.Rows L2
/-! ### the classes of errors -/
def excs8 : List Str := ["InvalidFrame", "InvalidNumber", "InvalidPlan", "InvalidSeen", "InvalidText", "InvalidWord", "NothingToUndo", "TooMany"]
def excs6 : List Str := ["InvalidFrame", "InvalidNumber", "InvalidPlan", "InvalidSeen", "InvalidWord", "NothingToUndo"]
def kindsOf (c : Str) : Str := c ++ " +"
structure ExcK (G : GC) : Prop where
  cls : ∀ c ∈ excs6, ExcC G.K (He.ga G.K c)
  kit : ∀ c ∈ excs6, ∀ d ∈ excs8, PySem.W.kitOne G.K (.ref (He.ga G.K c)) (.ref (He.ga G.K d)) = some (decide (c = d))
  ve : ∀ c ∈ excs6, PySem.W.kitOne G.K (.ref (He.ga G.K c)) (.type "ValueError") = some true
  many : ∀ c ∈ excs6, PySem.W.exmOne G.K (.ref (He.ga G.K c)) (.ref (He.ga G.K "TooMany")) = some false
  text : ∀ c ∈ excs6, PySem.W.exmOne G.K (.ref (He.ga G.K c)) (.ref (He.ga G.K "InvalidText")) = some false
  reel : ∀ c ∈ excs6, PySem.W.exmOne G.K (.ref (He.ga G.K c)) (.ref (He.ga G.K "ReelError")) = some true
  gl : ∀ d ∈ excs8, G.mg d = some (.ref (He.ga G.K d))
  glR : G.mg "ReelError" = some (.ref (He.ga G.K "ReelError"))
/-- what all that asks of the written part -/
def excKB (K : PySem.W.Frag) : Bool :=
  excs6.all fun c => decide (PySem.W.findIn K (.ref (He.ga K c)) "__getattribute__" = some (some (.builtin "BaseException.__getattribute__"))) && (decide (PySem.W.findIn K (.ref (He.ga K c)) "__getattr__" = some none) && (decide (PySem.W.subIn K (.ref (He.ga K c)) (.type "BaseException") = some true) &&
    (PySem.W.hasDictIn K (He.ga K c) && (decide (PySem.W.findIn K (.ref (He.ga K c)) "__class__" = some (some (.builtin "object.__class__"))) && (decide (PySem.W.specialIn K (.builtin "object.__class__") "__get__" = some (some (.builtin "getset_descriptor.__get__"))) && (decide (PySem.W.takesIn K (.builtin "object.__class__") = some true) &&
    (decide (PySem.W.mroIn K (He.ga K c) (.type "object") = some true) && (excs8.all (fun d => decide (PySem.W.kitOne K (.ref (He.ga K c)) (.ref (He.ga K d)) = some (decide (c = d)))) && (decide (PySem.W.kitOne K (.ref (He.ga K c)) (.type "ValueError") = some true) &&
    (decide (PySem.W.exmOne K (.ref (He.ga K c)) (.ref (He.ga K "TooMany")) = some false) && (decide (PySem.W.exmOne K (.ref (He.ga K c)) (.ref (He.ga K "InvalidText")) = some false) && decide (PySem.W.exmOne K (.ref (He.ga K c)) (.ref (He.ga K "ReelError")) = some true))))))))))))
theorem excK_of {G : GC} (h : excKB G.K = true) (gl : ∀ d ∈ excs8, G.mg d = some (.ref (He.ga G.K d))) (glR : G.mg "ReelError" = some (.ref (He.ga G.K "ReelError"))) : ExcK G := by
  unfold excKB at h
  simp only [List.all_eq_true, Bool.and_eq_true, decide_eq_true_eq] at h
  exact ⟨fun c hc => let ⟨h1, h2, h3, h4, h5, h6, h7, h8, _⟩ := h c hc; ⟨h1, h2, h3, h4, h5, h6, h7, h8⟩, fun c hc d hd => (h c hc).2.2.2.2.2.2.2.2.1 d hd, fun c hc => (h c hc).2.2.2.2.2.2.2.2.2.1, fun c hc => (h c hc).2.2.2.2.2.2.2.2.2.2.1, fun c hc => (h c hc).2.2.2.2.2.2.2.2.2.2.2.1, fun c hc => (h c hc).2.2.2.2.2.2.2.2.2.2.2.2, gl, glR⟩
/-! ### the def that tells the classes -/
def spK (G : GC) (y : Addr × Obj) : Sp := fun vs H Q _ => ∃ c F, c ∈ excs6 ∧ ExO G.K y c ∧ vs = [.ref y.1] ∧ Ex F H ∧ TbF G F H ∧ ∀ F' H', Ext G none F H F' H' → Q (.str (kindsOf c)) H'
structure FnK (G : GC) (k : Nat) (x : Str) : Prop where
  ex : ∃ fd ps, FnX G.P G.w G.K G.mg G.base (L2N.CX G.P G.w) k (He.ga G.K x) fd ps (spK G) ∧ Binds G.K fd ps []
  gl : G.mg x = some (.ref (He.ga G.K x))
  kp : PySem.W.keepIn G.K (.ref (He.ga G.K x)) = true
theorem def_okK {G : GC} {x : Str} {st : Stmt} {N ps : List Str} {k : Nat} {g : Addr → Str → SM} (F : DefF G x st) (S : FnScope N ps (defScope st)) (hn : ps.length = 1)
    (hb : ∀ (kV doc pm : Value) (an : Option Addr) (cdv ct : Value) (us : List Value), us.length = ps.length → bindArgs (PySem.W.fnOf x x (defArgs st) (defBody st) (defScope st) .none kV doc pm an cdv ct) ⟨us, []⟩ = pure (ps.zip us))
    (math : ∀ a c, c ∈ excs6 → runF (g a c) N.length [opq a] = .ok (.str (kindsOf c)))
    (der : ∀ (y : Addr × Obj) (c : Str), c ∈ excs6 → ExO G.K y c → ∀ (cdv : Value) (A : Around) (outer : List PySem.Env) (s : Shared) (H F0 : Hp) (E : XK), L2H.Hot1 A y →
      PSsD (L2H.cxH (L2N.CX G.P G.w) G.P G.w G.K G.mg G.base N x (defScope st) (He.ga G.K x) cdv A outer s H E y) none E F0 H (defBody st) (g y.1 c)) : FnK G (k + 1) x := by
  obtain ⟨fd, FD⟩ := F.ex
  refine ⟨⟨fd, ps, ?_, FD.bindsN hb⟩, F.gl, FD.kp⟩
  obtain ⟨oc, od, dV, kV, doc, pm, an, cdv, ct, osl, rfl, lk, hcd, _, _⟩ := FD.ex
  refine fnX_of lk hcd S (fun y vs H Q E h => ?_) fun A outer s H vs Q E y hot hr h => ?_
  · obtain ⟨c, F0, _, _, rfl, _⟩ := h
    rw [hn]; rfl
  · obtain ⟨c, F0, hc, hz, rfl, h1, ht, h4⟩ := h
    refine ⟨_, der y c hc hz cdv A outer s H F0 E hot, F0, [opq y.1].map L.d ++ List.replicate (N.length - [opq y.1].length) L.un, [], ⟨Ext.refl h1, ⟨ht, rfl⟩, startL (.cons (.opq y.1) .nil) N⟩, ?_⟩
    have hm := math y.1 c hc
    unfold runF at hm
    show PostS _ none E F0 H F0 (g y.1 c ([opq y.1].map L.d ++ List.replicate (N.length - [opq y.1].length) L.un) []) _
    cases hg : g y.1 c ([opq y.1].map L.d ++ List.replicate (N.length - [opq y.1].length) L.un) [] with
    | nx ρ s' => rw [hg] at hm; cases hm
    | rt d s' =>
      rw [hg] at hm
      cases hm
      exact fun F v H' x _ hv => by rw [hv.inv_str]; exact h4 F H' x
    | bk ρ s' => rw [hg] at hm; cases hm
    | ct ρ s' => rw [hg] at hm; cases hm
    | ex e => rw [hg] at hm; cases hm
    | un => rw [hg] at hm; cases hm
/-! ### except clauses -/
def unName (i : Nat) (D : Ends) : Ends := { nx := fun σ H => D.nx (σ.set i none) H, rt := D.rt, bk := fun σ H => D.bk (σ.set i none) H, ct := fun σ H => D.ct (σ.set i none) H }
def wEach (K : PySem.W.Frag) (Wo : WX) (i : Nat) (D : Ends) : List (Value × (Addr → Value → Option Addr → TS)) → WX
  | [] => Wo
  | (c, ts) :: r => fun cls d σ H => ∃ b, PySem.W.exmOne K cls c = some b ∧ (b = true → ∀ a, H a = none → ts a cls d (unName i D) (σ.set i (some (.ref a))) H) ∧ (b = false → wEach K Wo i D r cls d σ H)
inductive Hds (X : Cx) (n : Str) : List ExceptHandler → List (Value × (Addr → Value → Option Addr → TS)) → Prop
  | nil : Hds X n [] []
  | cons {x : Str} {c : Value} {ts : Addr → Value → Option Addr → TS} {b0 : Stmt} {suite : List Stmt} {np hp : Pos} {hds : List ExceptHandler} {l : List (Value × (Addr → Value → Option Addr → TS))} (hc : Names X x c)
      (hsu : ∀ (a : Addr) (oe : Obj) (cls : Value) (d : Option Addr) (pn : List (Addr × Obj)), L2N.Zn cls d oe → (∃ vs, oe.data = .fields vs) → PSs (X.suite a ((a, oe) :: pn)) (b0 :: suite) (ts a cls d)) (r : Hds X n hds l) : Hds X n (.ExceptHandler (some (.Name x np)) (some n) (b0 :: suite) hp :: hds) ((c, ts) :: l)
theorem ps_try_each {X : Cx} {n : Str} {i : Nat} {body : List Stmt} {h0 : ExceptHandler} {hds : List ExceptHandler} {l : List (Value × (Addr → Value → Option Addr → TS))} {pos : Pos} {tb : WX → TS} {Wo : WX}
    (hst : X.stack = X.env :: X.outer) (hfr : X.env.frame = some X.env.locals) (hN : X.N.Nodup) (hi : X.N[i]? = some n) (hln : X.env.kindOf n = some .local) (tk : L2N.Takes X Wo)
    (hb : ∀ (W : WX) (pn : List (Addr × Obj)) (xe : Value → Shared → Prop), L2N.Takes (X.tr pn xe) W → PassesOwn (model X.prog X.w) X.A X.env xe → PSs (X.tr pn xe) body (tb W))
    (hh : Hds X n (h0 :: hds) l) : PS X (.Try body (h0 :: hds) [] [] pos) (fun D σ H => tb (wEach X.K Wo i D l) D σ H) := by
  refine ⟨fun pins s σ H D I hw => ?_⟩
  have ok := I.ok
  have hfs : X.A.frames = some (X.env :: X.outer) := by rw [ok.frames, hst]
  refine wpAny_Try_except (wpAny_mono ((hb (wEach X.K Wo i D l) (X.pn ++ pins)
    (fun u s1 => wpAny (model X.prog X.w) X.A (noteFrame u X.env) (fun _ s2 => wpAny (model X.prog X.w) X.A (setFlight u none) (fun _ s3 => wpAny (model X.prog X.w) X.A (handleBy u X.env (h0 :: hds)) (SP X pins D) X.xe s3) X.xe s2) X.xe s1)
    (fun u s1 x1 => ?_) PassesOwn.looking).run [] s σ H D (I.toTry _) hw) (fun fl s1 q1 => ?_) fun _ _ q => q)
  · obtain ⟨a, B, sI, pins2, σ2, H2, cls, d, rfl, J0, nb, up, sky, na, os, ag, w⟩ := x1
    have J : Inv X pins σ2 H2 sI := J0.ofTry ok
    rw [show (X.tr (X.pn ++ pins) _).stack = X.env :: X.outer from hst] at sky
    show wpAny (model X.prog X.w) X.A (noteFrame (.ref a) X.env) _ _ _
    refine L2N.Sky.land L2N.Zn.steady hfs hfr sky fun h3 fl3 up3 => ?_
    have J3 : Inv X pins σ2 H2 { s1 with heap := h3 } := J.landed nb fl3.1 (up.trans up3) os ag
    obtain ⟨o3, v3, g3, z3, d3⟩ := fl3.there
    have nfr : a ∉ frs (X.env :: X.outer) := fun hm => by
      obtain ⟨_, o', e', hnf⟩ := fl3.2.2.1.mem hm
      rw [g3] at e'; cases e'
      exact hnf _ d3
    have nL : a ≠ X.env.locals := fun z => nfr (List.mem_filterMap.mpr ⟨X.env, List.mem_cons_self, hfr.trans (by rw [z])⟩)
    have nF : a ∉ X.fs := fun hm => by
      obtain ⟨e, he, q⟩ := List.mem_filterMap.mp hm
      exact nfr (List.mem_filterMap.mpr ⟨e, List.mem_cons_of_mem _ he, q⟩)
    have S3 := J3.suite g3 d3 na nL nF
    have go : ∀ {hs2 : List ExceptHandler} {l2 : List (Value × (Addr → Value → Option Addr → TS))}, Hds X n hs2 l2 → wEach X.K Wo i D l2 cls d σ2 H2 → wpAny (model X.prog X.w) X.A (handleBy (.ref a) X.env hs2) (SP X pins D) X.xe { s1 with heap := h3 } := by
      intro hs2 l2 hk
      induction hk with
      | nil =>
        intro w2
        refine wpAny_handleBy_nil ?_
        obtain ⟨_, _, _, oe, vs, T, oT, ts, he, hz, hd, e1, _⟩ := id fl3
        unfold PySem.passOn
        refine wpAny_bind (wpAny_field he hd e1 ?_)
        rw [if_neg (show ¬ ((Value.ref T == Value.none) = true) from by simp)]
        have fin : wpAny (model X.prog X.w) X.A (setFlight (.ref a) X.env.frame) (fun _ s4 => wpAny (model X.prog X.w) X.A (throw (.ref a) : Sem Flow) (SP X pins D) X.xe s4) X.xe { s1 with heap := h3 } := by
          rw [hfr]
          exact HandSPX.setFlight_upZ fl3 fun h4 hh4 up4 => wpAny_throw (tk _ _ ⟨a, B, sI, pins, σ2, H2, cls, d, rfl, J, nb, (up.trans up3).trans up4, .inr (.inr (by rw [hst]; exact hh4)), na, os, ag, w2⟩)
        first | exact wpAny_bind (wpAny_pure (wpAny_bind fin)) | exact wpAny_bind fin
      | @cons x c ts b0 suite np hp hds2 l3 hc hsu r ih =>
        intro w2
        obtain ⟨b, hb1, yes, no⟩ := w2
        refine wpAny_handleBy_cons (codeAny_handlers_test ?_) (by intro z; cases z)
        have LT : PySem.W.Looks (model X.prog X.w) h3 (typeOf (.ref a)) cls := fun A' Q' E' s' k q => wpAny_typeOf_ref (k _ _ g3) (by rw [z3.1]; exact q)
        have test : ∀ {Q' : Value → Shared → Prop} {E' : Value → Shared → Prop}, Q' c { s1 with heap := h3 } → wpAny (model X.prog X.w) (X.A.mark (some (.ref a))) (eval (.Name x np) X.env) Q' E' { s1 with heap := h3 } := fun {Q' E'} q => by
          obtain ⟨k1, k2, k3 | ⟨k3, k4, k5⟩⟩ := hc
          · exact ld_glob (X := X.suite a ((a, o3) :: (X.pn ++ pins))) S3 k1 k3 q k2
          · exact ld_blt (X := X.suite a ((a, o3) :: (X.pn ++ pins))) S3 k1 k3 k4 q k5 k2
        refine test ((PySem.W.exm_one (M := model X.prog X.w) J3.kIn LT hb1).here ?_)
        cases b with
        | false => exact ih (no rfl)
        | true =>
          refine codeAny_handlers_suite_as (HandSPX.lands_againZ fl3 fun h4 fl4 up4 => ?_)
          have J4 : Inv X pins σ2 H2 { s1 with heap := h4 } := J.landed nb fl4.1 ((up.trans up3).trans up4) os ag
          obtain ⟨o4, v4, g4, z4, d4⟩ := fl4.there
          refine store_ok (X := X.suite a ((a, o4) :: (X.pn ++ pins))) (v := .ref a) (J4.suite g4 d4 na nL nF) hN hi (.inl hln) rfl (fun s5 S5 => ?_) (.inr hln)
          refine wpAny_mono ((hsu a o4 cls d (X.pn ++ pins) z4 ⟨_, d4⟩).run [] s5 _ H2 _ S5 (yes rfl a na)) (fun fl s6 q6 => ?_) fun _ _ z => z.elim
          have out : ∀ {σ6 : L2.St} {H6 : Hp} {R : Shared → Prop}, Inv (X.suite a ((a, o4) :: (X.pn ++ pins))) [] σ6 H6 s6 → (∀ s7, Inv X pins (σ6.set i none) H6 s7 → R s7) → wpAny (model X.prog X.w) X.A (do bindName X.env n .none; unbindBehindTheSuite X.env n hp) (fun _ s7 => R s7) X.xe s6 :=
            fun S6 hq => gone_ok (S6.unsuite ok) hN hi hln hq
          cases fl with
          | next => obtain ⟨_, _, S6, q⟩ := q6; exact out S6 fun _ J7 => ⟨_, _, J7, q⟩
          | brk => obtain ⟨_, _, S6, q⟩ := q6; exact out S6 fun _ J7 => ⟨_, _, J7, q⟩
          | cont => obtain ⟨_, _, S6, q⟩ := q6; exact out S6 fun _ J7 => ⟨_, _, J7, q⟩
          | ret u => obtain ⟨_, _, _, S6, r6, q⟩ := q6; exact out S6 fun _ J7 => ⟨_, _, _, J7, r6, q⟩
    exact go hh w
  · cases fl with
    | next => obtain ⟨_, _, J1, q⟩ := q1; exact wpAny_execs_nil ⟨_, _, J1.ofTry ok, q⟩
    | brk => obtain ⟨_, _, J1, q⟩ := q1; exact ⟨_, _, J1.ofTry ok, q⟩
    | cont => obtain ⟨_, _, J1, q⟩ := q1; exact ⟨_, _, J1.ofTry ok, q⟩
    | ret u => obtain ⟨_, _, _, J1, r1, q⟩ := q1; exact ⟨_, _, _, J1.ofTry ok, r1, q⟩
end DL
end

section
set_option Elab.async false
set_option linter.all false
set_option maxRecDepth 100000
set_option maxHeartbeats 4000000
/-! The data layer, part 28: try: x = .. / except .. as e: x = (kinds(e),). -/
namespace DL
open PySem PySem.Spec PyProof.Rows L2
/-- what is told of an error -/
def kdM (e : Exn) : R D := match e.arg with
  | none => if excs6.contains e.cls then .ok (.tuple [.str (kindsOf e.cls)]) else .un
  | some _ => .un
theorem kdM_ok {e : Exn} {d : D} (h : kdM e = .ok d) : e.arg = none ∧ e.cls ∈ excs6 ∧ d = .tuple [.str (kindsOf e.cls)] := by
  unfold kdM at h
  cases ha : e.arg with
  | some _ => rw [ha] at h; cases h
  | none =>
    rw [ha] at h
    cases hc : excs6.contains e.cls with
    | false => rw [hc] at h; cases h
    | true => rw [hc] at h; cases h; exact ⟨rfl, by simpa using hc, rfl⟩
def gTryK (n : Nat) (g : SM) (j : Nat) : SM := fun ρ s => match g ρ s with
  | .ex e => match kdM e with
    | .ok d => .nx ((List.replicate n L.un).set j (.d d)) s
    | _ => .un
  | r => r
section
variable {X : Cx} {Fc F0 H0 : Hp} {E : XK}
/-- a call of the def that tells the classes, in a clause -/
theorem pe_kinds {x : Str} {i k : Nat} {a : Addr} {oe : Obj} {cls : Value} {d : Option Addr} {pn : List (Addr × Obj)} {n : Str} {p1 p2 p3 : Pos} (FK : FnK X.gc k x) (hr : Room k X.A) (hz : L2N.Zn cls d oe) (hv : ∃ vs, oe.data = .fields vs) (hx : PE (X.suite a ((a, oe) :: pn)) (.Name n p2) (tVar i))
    (hg : Gl X x := by rfl) (hdb : (x == ("__debug__" : Str)) = false := by decide) (he : starEach [.Name n p2] X.env = (false, eval (.Name n p2) X.env) :: starEach [] X.env := by rfl) (hpl : (backTo p3 (starEach [] X.env)).any (·.1) = false := by rfl) :
    PE (X.suite a ((a, oe) :: pn)) (.Call (.Name x p1) [.Name n p2] [] p3) (fun σ H Q => σ[i]? = some (some (.ref a)) ∧ ∃ c F, c ∈ excs6 ∧ cls = .ref (He.ga X.K c) ∧ d = none ∧ Ex F H ∧ TbF X.gc F H ∧ ∀ F' H', Ext X.gc none F H F' H' → Q (.str (kindsOf c)) H') := by
  obtain ⟨fd, ps, FX, hb⟩ := FK.ex
  refine ⟨fun pins s σ H Q I hw => ?_⟩
  obtain ⟨hs, c, F, hc, rfl, rfl, e1, ht, hq⟩ := hw
  refine wpAny_Call_Name_kw (ld_glob I (show Gl (X.suite a ((a, oe) :: pn)) x from hg) FK.gl ?_ hdb)
  have pa : L2.PA (X.suite a ((a, oe) :: pn)) [.Name n p2] (tCons (tVar i) tNil) := pa_cons hx pa_nil he
  refine PySem.W.callWith_K (h₀ := X.base) I.ok.mod.kin FK.kp (thn (pa.run p3 pins s σ H (fun vs H1 => vs = [.ref a] ∧ H1 = H) I ⟨.ref a, hs, rfl, rfl⟩) fun us s1 ⟨vs, H1, I1, r, ev, eH⟩ => ⟨I1.kIn, ?_⟩) he hpl
  subst ev eH
  have P1 := I1.pin (a, oe) (List.mem_append_left _ List.mem_cons_self)
  have hpin : L2H.PinOk X.stack H1 s1 (a, oe) := ⟨P1.1, P1.2.1, fun hm => (List.mem_cons.mp (I1.stkSub a hm)).elim P1.2.2.1 P1.2.2.2.1, P1.2.2.2.2⟩
  obtain ⟨vs0, hd0⟩ := hv
  have hsp : spK X.gc (a, oe) [V.ref a] H1 Q (fun _ _ _ => False) := ⟨c, F, hc, ⟨hz, vs0, hd0⟩, rfl, e1, ht, hq⟩
  have hl := FX.len _ _ _ _ _ hsp
  have b := hb s1 us I1.kIn (by rw [List.append_nil, ← r.length]; exact hl)
  rw [List.append_nil] at b
  have rm : L2H.RoomH k (X.suite a ((a, oe) :: pn)).A := ⟨hr.dp, hr.un⟩
  refine wpAny_call (codeAny_mono (FX.run _ X.stack s1 H1 ⟨us, []⟩ us [.ref a] Q (fun _ _ _ => False) (a, oe) rm ⟨rfl, vs0, hd0, hz.2.2 vs0 hd0⟩ hpin I1.env0 b r hsp) fun r s' hq => ?_)
  cases r with
  | error e => obtain ⟨_, _, _, _, _, _, _, _, _, _, _, _, z⟩ := (show L2N.CX X.prog X.w X.stack H1 s1 (fun _ _ _ => False) e s' from hq); exact z.elim
  | ok fl =>
    cases fl with
    | ret u => exact I1.after hq
    | next => exact False.elim hq
    | brk => exact False.elim hq
    | cont => exact False.elim hq
/-- what the last clause wants -/
def tsK (X : Cx) (i j : Nat) (a : Addr) (cls : Value) (d : Option Addr) : TS := fun D σ H => σ[i]? = some (some (.ref a)) ∧ ∃ c F, c ∈ excs6 ∧ cls = .ref (He.ga X.K c) ∧ d = none ∧ Ex F H ∧ TbF X.gc F H ∧
  ∀ F' v H', Ext X.gc none F H F' H' → DD X.gc F' v (.tuple [.str (kindsOf c)]) → D.nx (σ.set j (some v)) H'
theorem pss_suiteK {e tg : Expr} {j : Nat} {i : Nat} {a : Addr} {oe : Obj} {cls : Value} {d : Option Addr} {pn : List (Addr × Obj)} {x1 : Nat} {p1 pos : Pos}
    (h : PE (X.suite a ((a, oe) :: pn)) e (fun σ H Q => σ[i]? = some (some (.ref a)) ∧ ∃ c F, c ∈ excs6 ∧ cls = .ref (He.ga X.K c) ∧ d = none ∧ Ex F H ∧ TbF X.gc F H ∧ ∀ F' H', Ext X.gc none F H F' H' → Q (.str (kindsOf c)) H')) (hgn : PG (X.suite a ((a, oe) :: pn)) tg (gName j))
    (he : starEach (e :: []) X.env = (false, eval e X.env) :: starEach [] X.env := by rfl) (hs : swapsWithSole [tg] (.Tuple [e] x1 p1) pos.line X.env = pure false := by rfl) (hw : swappedStores [tg] (.Tuple [e] x1 p1) X.env = pure none := by rfl) (h1 : (assignEach [tg] X.env).map (·.2) = [assign tg X.env] := by rfl) :
    PSs (X.suite a ((a, oe) :: pn)) [.Assign [tg] (.Tuple [e] x1 p1) pos] (tsK X i j a cls d) :=
  pss_imp (pss_one (ps_asg (pe_tup (pa_cons h pa_nil he)) hgn hs hw h1)) fun D σ H ⟨g1, c, F, g2, g3, g4, g5, g6, g7⟩ => ⟨g1, c, F, g2, g3, g4, g5, g6, fun F' H' x => ⟨by show (1 : Nat) ≤ sizeLine; decide, fun q hq => g7 _ _ _ (x.trans (Ext.new x.fh hq)) (.tup (SqT.of upd_same) (.cons (.str _) .nil))⟩⟩
theorem St7.tr {p : Option PQ} {F H : Hp} {σ : L2.St} {ρ : List L} {s : List D} {pn : List (Addr × Obj)} {xe : Value → Shared → Prop} (h : St7 X p F0 H0 F H σ ρ s) : St7 (X.tr pn xe) p F0 H0 F H σ ρ s := ⟨h.ext, h.sr, h.rl⟩
theorem St7.rt {p : Option PQ} {F H : Hp} {σ : L2.St} {ρ : List L} {s : List D} {pn : List (Addr × Obj)} {xe : Value → Shared → Prop} (h : St7 (X.tr pn xe) p F0 H0 F H σ ρ s) : St7 X p F0 H0 F H σ ρ s := ⟨h.ext, h.sr, h.rl⟩
theorem tS_tr {p : Option PQ} {H : Hp} {σ : L2.St} {g : SM} {D : Ends} {pn : List (Addr × Obj)} {xe : Value → Shared → Prop} (h : tS X p E F0 H0 g D σ H) : tS (X.tr pn xe) p E F0 H0 g D σ H := by
  obtain ⟨F, ρ, s, st, q⟩ := h
  refine ⟨F, ρ, s, st.tr, ?_⟩
  cases hg : g ρ s with
  | nx ρ' s' => rw [hg] at q; exact fun F' σ' H' e st' => q F' σ' H' e st'.rt
  | bk ρ' s' => rw [hg] at q; exact fun F' σ' H' e st' => q F' σ' H' e st'.rt
  | ct ρ' s' => rw [hg] at q; exact fun F' σ' H' e st' => q F' σ' H' e st'.rt
  | rt d s' => rw [hg] at q; exact q
  | ex e => rw [hg] at q; exact q
  | un => rw [hg] at q; exact q
/-- at any slots -/
def EW (X : Cx) (W : WX) : XK := fun cls d H => ∀ σ : L2.St, σ.length = X.N.length → W cls d σ H
theorem passes_EW {W : WX} {pn : List (Addr × Obj)} {xe : Value → Shared → Prop} (tk : L2N.Takes (X.tr pn xe) W) : Passes (L2N.CX X.prog X.w) (X.tr pn xe) (EW X W) :=
  L2N.passes_call (W := fun cls d _ H => EW X W cls d H) (fun u s' ⟨a, B, sI, pins, σ, H, cls, d, e, I, nb, up, sky, na, os, ag, w⟩ => tk u s' ⟨a, B, sI, pins, σ, H, cls, d, e, I, nb, up, sky, na, os, ag, w σ I.len⟩) fun _ _ _ _ h => h
theorem blank_rel {G : GC} {F H H1 : Hp} {σ : L2.St} {n : Nat} (h : σ.length = n) : RelL G F H H1 σ (List.replicate n L.un) := by
  have no : ∀ (i : Nat) (l : L), (List.replicate n L.un)[i]? = some l → l = L.un := fun i l e => by
    rw [List.getElem?_replicate] at e
    split at e
    · exact (Option.some.inj e).symm
    · cases e
  refine ⟨by rw [h, List.length_replicate], fun i l e => by rw [no i l e]; trivial, fun i j a hi _ => ?_⟩
  obtain ⟨c, h1, _⟩ := oad_own hi
  cases no i _ h1
theorem psd_tryK {n : Str} {i j : Nat} {body s1 s2 s3 : List Stmt} {b1 b2 b3 : Stmt} {gb : SM} {q1 q2 q3 q4 q5 q6 pos : Pos} (hs0 : SRel X.gc (some (.fn Fc)) F0 H0 []) (K : ExcK X.gc) (hst : X.stack = X.env :: X.outer) (hfr : X.env.frame = some X.env.locals) (hN : X.N.Nodup) (hi : X.N[i]? = some n) (hln : X.env.kindOf n = some .local)
    (hij : i ≠ j) (hbody : ∀ (pn : List (Addr × Obj)) (xe : Value → Shared → Prop) (E' : XK), Passes (L2N.CX X.prog X.w) (X.tr pn xe) E' → PassesOwn (model X.prog X.w) X.A X.env xe → PSsD (X.tr pn xe) (some (.fn Fc)) E' F0 H0 body gb)
    (hsu : ∀ (a : Addr) (oe : Obj) (cls : Value) (d : Option Addr) (pn : List (Addr × Obj)), L2N.Zn cls d oe → (∃ vs, oe.data = .fields vs) → PSs (X.suite a ((a, oe) :: pn)) (b3 :: s3) (tsK X i j a cls d))
    (hg1 : Gl X "TooMany" := by rfl) (hg2 : Gl X "InvalidText" := by rfl) (hg3 : Gl X "ReelError" := by rfl) :
    PSD X (some (.fn Fc)) E F0 H0 (.Try body [.ExceptHandler (some (.Name "TooMany" q1)) (some n) (b1 :: s1) q2, .ExceptHandler (some (.Name "InvalidText" q3)) (some n) (b2 :: s2) q4, .ExceptHandler (some (.Name "ReelError" q5)) (some n) (b3 :: s3) q6] [] [] pos) (gTryK X.N.length gb j) := by
  have no : ∀ (a : Addr) (oe : Obj) (pn : List (Addr × Obj)) (sts : List Stmt), PSs (X.suite a ((a, oe) :: pn)) sts (fun _ _ _ => False) := fun a oe pn sts => ⟨fun _ _ _ _ _ _ h => h.elim⟩
  have hh : Hds X n [.ExceptHandler (some (.Name "TooMany" q1)) (some n) (b1 :: s1) q2, .ExceptHandler (some (.Name "InvalidText" q3)) (some n) (b2 :: s2) q4, .ExceptHandler (some (.Name "ReelError" q5)) (some n) (b3 :: s3) q6]
      [(.ref (He.ga X.K "TooMany"), fun _ _ _ _ _ _ => False), (.ref (He.ga X.K "InvalidText"), fun _ _ _ _ _ _ => False), (.ref (He.ga X.K "ReelError"), tsK X i j)] :=
    .cons ⟨hg1, by decide, .inl (K.gl "TooMany" (by decide))⟩ (fun a oe cls d pn _ _ => no a oe pn _) (.cons ⟨hg2, by decide, .inl (K.gl "InvalidText" (by decide))⟩ (fun a oe cls d pn _ _ => no a oe pn _) (.cons ⟨hg3, by decide, .inl K.glR⟩ (fun a oe cls d pn hz hv => hsu a oe cls d pn hz hv) .nil))
  refine ps_imp (ps_try_each (Wo := fun _ _ _ _ => False) hst hfr hN hi hln (fun _ _ ⟨_, _, _, _, _, _, _, _, _, _, _, _, _, _, _, _, w⟩ => w.elim) (tb := fun W => tS X (some (.fn Fc)) (EW X W) F0 H0 gb)
    (fun W pn xe tk po => pss_imp (hbody pn xe (EW X W) (passes_EW tk) po) fun _ _ _ h => tS_tr h) hh) fun D σ H ⟨F, ρ, s, st, q⟩ => ?_
  refine ⟨F, ρ, s, st, ?_⟩
  have hs : s = [] := st.sr.2.1
  unfold gTryK at q
  cases hgb : gb ρ s with
  | nx ρ' s' => rw [hgb] at q; exact q
  | bk ρ' s' => rw [hgb] at q; exact q
  | ct ρ' s' => rw [hgb] at q; exact q
  | rt d s' => rw [hgb] at q; exact q
  | un => rw [hgb] at q; exact q
  | ex e =>
    rw [hgb] at q
    cases hk : kdM e with
    | un => simp only [hk] at q; exact q.elim
    | ex e' => simp only [hk] at q; exact q.elim
    | ok d =>
      simp only [hk] at q
      obtain ⟨ha, hc, rfl⟩ := kdM_ok hk
      intro F' H' eF x
      unfold ExW
      rw [ha]
      intro σ' hl
      have tb' : TbF X.gc F' H' := hs0.1.ext x
      have li : i < σ'.length := by
        rw [hl]
        exact (List.getElem?_eq_some_iff.mp hi).1
      refine ⟨false, K.many _ hc, (fun z => nomatch z), fun _ => ⟨false, K.text _ hc, (fun z => nomatch z), fun _ => ⟨true, K.reel _ hc, fun _ a na => ?_, (fun z => nomatch z)⟩⟩⟩
      refine ⟨by rw [List.getElem?_set_self li], e.cls, F', hc, rfl, rfl, x.fh, tb', fun F2 v H2 x2 hv => ?_⟩
      refine q F2 _ H2 (eF.trans x2.ff) ⟨x.trans x2.weak, ?_, ?_⟩
      · rw [hs]
        exact ⟨tb'.ext x2, rfl, (hs0.2.2.trans x.ff).trans x2.ff⟩
      · have ec : ((σ'.set i (some (.ref a))).set j (some v)).set i none = (σ'.set i none).set j (some v) := by
          rw [List.set_comm _ _ (show j ≠ i from fun h => hij h.symm), List.set_set]
        rw [ec]
        exact (blank_rel (by rw [List.length_set]; exact hl)).setD j hv
end
end DL
end

section
set_option Elab.async false
set_option linter.all false
set_option maxRecDepth 100000
set_option maxHeartbeats 4000000
/-! The data layer, part 29: calls of a function that a slot holds, one of a table; the tables of code objects as the head tells them. -/
namespace DL
open PySem PySem.Spec PyProof.Rows L2
theorem passN {X : Cx} : Passes (L2N.CX X.prog X.w) X E0 := fun _ _ _ _ _ _ _ h => by
  obtain ⟨_, _, _, _, _, _, _, _, _, _, _, _, z⟩ := h
  exact z.elim
abbrev Tbl : Type := List (Addr × (List D → R D))
/-- each of the table's functions is a def of the module -/
def TblOk (G : GC) (j n : Nat) (tbl : Tbl) : Prop := ∀ z ∈ tbl, ∃ k x, k ≤ j ∧ z.1 = He.ga G.K x ∧ FnG G k x n z.2
theorem tbl_nil {G : GC} {j n : Nat} : TblOk G j n [] := fun _ h => nomatch h
theorem tbl_cons {G : GC} {j k n : Nat} {x : Str} {m : List D → R D} {t : Tbl} (F : FnG G k x n m) (h : k ≤ j) (r : TblOk G j n t) : TblOk G j n ((He.ga G.K x, m) :: t) := fun z hz => by
  rcases List.mem_cons.mp hz with e | e
  · subst e
    exact ⟨k, x, h, rfl, F⟩
  · exact r z e
def tblF (tbl : Tbl) (d : D) : Option (Addr × (List D → R D)) := tbl.find? fun z => isSp z.1 d
theorem tblF_some {tbl : Tbl} {d : D} {z : Addr × (List D → R D)} (h : tblF tbl d = some z) : z ∈ tbl ∧ isSp z.1 d = true := ⟨List.mem_of_find?_eq_some h, by have q := List.find?_some (p := fun w : Addr × (List D → R D) => isSp w.1 d) h; exact q⟩
/-- a call of the slot i, which holds one of the table's functions -/
def eCallT (tbl : Tbl) (i : Nat) (h : AM) : EM := fun ρ s => match ρ[i]? with
  | some (some d) => match tblF tbl d with
    | some z => (h ρ s).bind fun y => (z.2 y.1).bind fun d => .ok (d, y.2)
    | none => .un
  | _ => .un
section
variable {X : Cx} {E : XK} {p : Option PQ} {e : Expr} {es : List Expr} {h : AM} {pos q : Pos} {i j n : Nat} {x : Str} {tbl : Tbl}
theorem callT_slot {ρ : Rho} {s : List D} {σ : L2.St} {F H : Hp} {Q : VK} (pre : Pre X.gc p F H σ ρ s) (post : Post X.gc p E F H (eCallT tbl i h ρ s) (fun F' _ v d => DD X.gc F' v d) Q) :
    ∃ z ∈ tbl, σ[i]? = some (some (.ref z.1)) ∧ Post X.gc p E F H ((h ρ s).bind fun y => (z.2 y.1).bind fun d => .ok (d, y.2)) (fun F' _ v d => DD X.gc F' v d) Q := by
  unfold eCallT at post
  cases hj : ρ[i]? with
  | none => rw [hj] at post; exact post.elim
  | some o =>
    cases o with
    | none => rw [hj] at post; exact post.elim
    | some d =>
      rw [hj] at post
      cases hq : tblF tbl d with
      | none => simp only [hq] at post; exact post.elim
      | some z =>
        simp only [hq] at post
        obtain ⟨h1, h2⟩ := tblF_some hq
        obtain ⟨v, hv, hd⟩ := pre.rd i d hj
        rw [(isSp_opq hd h2).1] at hv
        exact ⟨z, h1, hv, post⟩
theorem pd_callT (T : TblOk X.gc j n tbl) (hr : Room j X.A) (hN : X.N[i]? = some x) (hv : Vis X.env.scope x) (hx : Passes (L2N.CX X.prog X.w) X E) (h1 : PAD X p E (e :: es) h) (hl : ∀ ρ s ds s', h ρ s = .ok (ds, s') → ds.length = n)
    (hd : (x == ("__debug__" : Str)) = false := by decide) (hcd : (x == ("__classdict__" : Str)) = false := by decide)
    (he : starEach (e :: es) X.env = (false, eval e X.env) :: starEach es X.env := by rfl) (hpl : (backTo pos (starEach es X.env)).any (·.1) = false := by rfl) : PED X p E (.Call (.Name x q) (e :: es) [] pos) (eCallT tbl i h) := by
  refine ⟨fun pins s σ H Q I hh => ?_⟩
  obtain ⟨F, ρ, sp, pre, post⟩ := hh
  obtain ⟨z, hz, hs, post⟩ := callT_slot pre post
  obtain ⟨k, y, hk, hzy, FG⟩ := T z hz
  obtain ⟨fd, ps, FO, hb⟩ := FG.ex
  refine wpAny_Call_Name_kw (thn ((pe_var (pos := q) hN hv hd hcd).run pins s σ H (fun v H1 => v = .ref z.1 ∧ H1 = H) I ⟨.ref z.1, hs, rfl, rfl⟩) fun u s1 ⟨v, H1, I1, r1, q1⟩ => ?_)
  obtain ⟨rfl, rfl⟩ := q1
  obtain rfl : u = Value.ref z.1 := r1
  rw [hzy]
  have post' : tDA X.gc p E h σ H1 (fun vs H2 => spD X.gc n z.2 (vs ++ []) H2 Q E) := (tCall_of (m := z.2) hl ⟨F, ρ, sp, pre, post⟩)
  exact PySem.W.callWith_K (h₀ := X.base) I1.ok.mod.kin FG.kp (thn (h1.run pos pins s1 σ H1 _ I1 post') fun us s2 ⟨vs, H2, I2, r, q2⟩ => ⟨I2.kIn, run_fn FO (hr.mono hk) hb .nil hx I2 r q2⟩) he hpl
end
/-! ### the tables -/
/-- a def that makes a function without a name, as the head tells it -/
structure LamF (G : GC) (x : Str) : Prop where
  tb : LamX.TabB G.base G.mg (He.codeOf G.K (x, none)) (He.cT G.K (x, none)).2
  mem : ((He.cT G.K (x, none)).2, x ++ ".<locals>.<lambda>") ∈ TK G.K
  one : ∀ z ∈ TK G.K, z.1 = (He.cT G.K (x, none)).2 → z.2 = x ++ ".<locals>.<lambda>"
def LamF.tab {X : Cx} {x : Str} {cdv : Value} (L : LamF X.gc x) (hc : cdv = .ref (He.codeOf X.K (x, none))) (he : X.env.code = cdv) (hq : X.env.qual ++ "<lambda>" = x ++ ".<locals>.<lambda>" := by rfl) : TabF X (x ++ ".<locals>.<lambda>") :=
  ⟨He.codeOf X.K (x, none), (He.cT X.K (x, none)).2, L.tb, he.trans hc, L.mem, L.one, hq⟩
def exL (ek : Bool) (xs : List Str) (K : PySem.W.Frag) : Bool := (!ek || excKB K) && ((lamNames.all fun x => decide (x ∈ xs) || !PySem.W.codeHdIn K (He.cT K (x, none)).1 (He.cT K (x, none)).2) && decide ((TK K).map (·.1)).Nodup)
theorem nodup_fst {α β : Type} {l : List (α × β)} (h : (l.map (·.1)).Nodup) {a b : α × β} (ha : a ∈ l) (hb : b ∈ l) (e : a.1 = b.1) : a = b := by
  induction l with
  | nil => cases ha
  | cons c l ih =>
    rw [List.map_cons, List.nodup_cons] at h
    rcases List.mem_cons.mp ha with rfl | ha'
    · rcases List.mem_cons.mp hb with rfl | hb'
      · rfl
      · exact absurd (List.mem_map.mpr ⟨b, hb', e.symm⟩) h.1
    · rcases List.mem_cons.mp hb with rfl | hb'
      · exact absurd (List.mem_map.mpr ⟨a, ha', e⟩) h.1
      · exact ih h.2 ha' hb'
section
variable {ek : Bool} {xs : List Str} {K : PySem.W.Frag}
theorem exL_K (h : exL true xs K = true) : excKB K = true := by
  have q := (band h).1
  simpa using q
theorem TK_mem {x : Str} (hx : x ∈ lamNames) (h : PySem.W.codeHdIn K (He.cT K (x, none)).1 (He.cT K (x, none)).2 = true) : ((He.cT K (x, none)).2, x ++ ".<locals>.<lambda>") ∈ TK K :=
  List.mem_filterMap.mpr ⟨x, hx, by rw [if_pos h]⟩
theorem TK_inv {z : Addr × Str} (h : z ∈ TK K) : ∃ x ∈ lamNames, PySem.W.codeHdIn K (He.cT K (x, none)).1 (He.cT K (x, none)).2 = true ∧ z = ((He.cT K (x, none)).2, x ++ ".<locals>.<lambda>") := by
  obtain ⟨x, hx, e⟩ := List.mem_filterMap.mp h
  split at e
  · rename_i hc
    exact ⟨x, hx, hc, (Option.some.inj e).symm⟩
  · cases e
theorem exL_TK (h : exL ek xs K = true) {z : Addr × Str} (hz : z ∈ TK K) : ∃ x ∈ xs, z.1 = (He.cT K (x, none)).2 := by
  obtain ⟨x, hx, hc, rfl⟩ := TK_inv hz
  have h2 := List.all_eq_true.mp (band (band h).2).1 x hx
  rw [hc] at h2
  exact ⟨x, by simpa using h2, rfl⟩
theorem lamF_of {G : GC} (h : exL ek xs G.K = true) {x : Str} (hx : x ∈ lamNames) (hc : PySem.W.codeHdIn G.K (He.cT G.K (x, none)).1 (He.cT G.K (x, none)).2 = true) (tb : LamX.TabB G.base G.mg (He.cT G.K (x, none)).1 (He.cT G.K (x, none)).2) : LamF G x :=
  ⟨tb, TK_mem hx hc, fun z hz e => by
    have nd : ((TK G.K).map (·.1)).Nodup := of_decide_eq_true (band (band h).2).2
    rw [nodup_fst nd hz (TK_mem hx hc) e]⟩
end
end DL
end

section
set_option Elab.async false
set_option linter.all false
set_option maxRecDepth 100000
set_option maxHeartbeats 4000000
/-! The data layer, part 30: in short for what gen.py prints. -/
namespace DL
open PySem PySem.Spec PyProof.Rows L2
section
variable {X : Cx} {p : Option PQ} {E : XK}
theorem pd_isK {x : Expr} {i : Nat} {y : Addr × Obj} {c d : Str} {pos q q2 : Pos} (K : ExcK X.gc) (hc : c ∈ excs6) (z : ExO X.K y c) (hy : y ∈ X.pn) (hm : X.mg "isinstance" = none) (hx : PE X x (tVar i)) (hd : d ∈ excs8 := by decide) (hg : Gl X "isinstance" := by rfl) (hgd : Gl X d := by rfl) (hdb : (d == ("__debug__" : Str)) = false := by decide)
    (hs : starEach [x, .Name d q2] X.env = (false, eval x X.env) :: starEach [.Name d q2] X.env := by rfl) (hpl : (backTo pos (starEach [.Name d q2] X.env)).any (·.1) = false := by rfl) :
    PED X p E (.Call (.Name "isinstance" q) [x, .Name d q2] [] pos) (eIsE y.1 i (decide (c = d))) :=
  pd_isE (cv := .ref (He.ga X.K d)) (cu := .ref (He.ga X.K d)) hy (K.cls c hc) z (K.kit c hc d hd) hx (pe_glob hgd (K.gl d hd) rfl hdb) (fun u h => h) hg hm hs hpl
theorem pd_isV {x : Expr} {i : Nat} {y : Addr × Obj} {c : Str} {pos q q2 : Pos} (K : ExcK X.gc) (hc : c ∈ excs6) (z : ExO X.K y c) (hy : y ∈ X.pn) (hm : X.mg "isinstance" = none) (hmv : X.mg "ValueError" = none) (hx : PE X x (tVar i)) (hg : Gl X "isinstance" := by rfl) (hgd : Gl X "ValueError" := by rfl)
    (hs : starEach [x, .Name "ValueError" q2] X.env = (false, eval x X.env) :: starEach [.Name "ValueError" q2] X.env := by rfl) (hpl : (backTo pos (starEach [.Name "ValueError" q2] X.env)).any (·.1) = false := by rfl) :
    PED X p E (.Call (.Name "isinstance" q) [x, .Name "ValueError" q2] [] pos) (eIsE y.1 i true) :=
  pd_isE (cv := .ty "ValueError") (cu := .type "ValueError") hy (K.cls c hc) z (K.ve c hc) hx (pe_bltn hgd hmv (by decide +kernel) rfl) (fun u h => h) hg hm hs hpl
end
def freeB (sc o : Scope) : Bool := sc.names.all fun y => !decide (y.2 = .free) || (decide (o.names.lookup y.1 = some .cell) || decide (o.names.lookup y.1 = some .free))
theorem free_by {sc o : Scope} (h : freeB sc o = true) : ∀ y ∈ sc.names, y.2 = .free → o.names.lookup y.1 = some .cell ∨ o.names.lookup y.1 = some .free := fun y hy e => by
  have q := List.all_eq_true.mp h y hy
  rw [e] at q
  rcases Bool.or_eq_true_iff.mp q with w | w
  · cases w
  · rcases Bool.or_eq_true_iff.mp w with w | w
    · exact .inl (of_decide_eq_true w)
    · exact .inr (of_decide_eq_true w)
theorem cells_by {X : Cx} {sc : Scope} (h : ∀ y ∈ sc.names, y.2 = .free → X.env.scope.names.lookup y.1 = some .cell ∨ X.env.scope.names.lookup y.1 = some .free) : X.Ok → ∀ y ∈ sc.names, y.2 = .free → ∃ c, X.env.cells.lookup y.1 = some c := fun ok y hy e =>
  ok.has y.1 ((h y hy e).imp (fun w => w) fun w => w)
def freB (fr : List Str) (sc : Scope) : Bool := fr.all fun y => decide ((y, NameKind.free) ∈ sc.names)
theorem fre_by {fr : List Str} {sc : Scope} (h : freB fr sc = true) : ∀ y ∈ fr, (y, NameKind.free) ∈ sc.names := fun y hy => of_decide_eq_true (List.all_eq_true.mp h y hy)
theorem passLam {P : Program} {w : World} {K : PySem.W.Frag} {mg : Str → Option Value} {base : Heap} {N : List Str} {F : NdefX.NF} {f : Addr} {A : Around} {outer : List PySem.Env} {s : Shared} {H : Hp} {E : XK} :
    Passes (L2N.CX P w) (NdefX.ncx (L2N.CX P w) P w K mg base N F f A outer s H E) E := L2N.passes_call (L2N.takes_of (E := E) rfl rfl rfl rfl) fun _ _ _ _ h => h
/-- what a call of a function answers, or its error -/
def tellM (r : R D) : R D := match r with
  | .ok d => .ok (.tuple [.str "told", d])
  | .ex e => kdM e
  | .un => .un
end DL
end

section
set_option Elab.async false
set_option linter.all false
set_option maxRecDepth 100000
set_option maxHeartbeats 4000000
/-! The data layer, part 31: several names at once where an exception is handled. -/
namespace DL
open PySem PySem.Spec PyProof.Rows L2 HotX
section
variable {prog : Program} {w : World} {A : Around} {E : Value → Shared → Prop} {s : Shared}
theorem next_tup_hot {it t x : Addr} {i : Nat} {items} {Q : Option Value → Shared → Prop} (hot : HotAt A x s.heap)
    (hit : IsTupIter s.heap it t i) (ht : IsTup s.heap t items) (hx : items[i]? = none)
    (hQ : ∀ h', Heap.ExtBut it s.heap h' → Q none { s with heap := h' }) : wpAny (model prog w) A (pyNext (.ref it)) Q E s := by
  obtain ⟨o, ho, hc, hd⟩ := id hit
  obtain ⟨ol, hol, _, nl, hdl⟩ := ht
  have nx : x ≠ it := hot_ne hot ho fun vs e => by rw [hd] at e; cases e; simp
  unfold pyNext
  refine wpAny_bind (wpAny_attempt (wpAny_callSpecial?_slot (name := Str.ofString "__next__") hit.typeIs slot_tupleiter_next
    (wpAny_call_entry slot_tupleiter_next hit.typeIs entry_tupleiter_next ?_ (args_tupleiter_next _))))
  show wpAny _ _ (field (.ref it) 0 >>= _) _ _ s
  refine wpAny_bind (wpAny_field ho hd (x := .ref t) rfl ?_)
  show wpAny _ _ (if (Value.ref t == Value.none) = true then _ else _) _ _ s
  rw [if_neg (show ¬ ((Value.ref t == Value.none) = true) from Bool.false_ne_true)]
  show wpAny _ _ (field (.ref it) 1 >>= _) _ _ s
  refine wpAny_bind (wpAny_field ho hd (x := .int i 0) rfl ?_)
  show wpAny _ _ (seqItems? (.ref t) >>= _) _ _ s
  refine wpAny_bind (wpAny_seqItems hol hdl ?_)
  simp only [Int.toNat_natCast, hx]
  refine wpAny_bind (wpAny_rule (wpAny_bind (wpAny_setField ho hd (by simp) ?_)))
  show wpAny _ _ (newExc (.type "StopIteration") [] >>= _) _ _ _
  refine wpAny_bind ?_
  simp only [newExc, newTuple]
  refine wpAny_bind (wpAny_newObj_type ?_ (by size_fits))
  refine wpAny_bind (m := firstArgMember _ _) (wpAny_of_eq (a := Value.none) (by first | rfl | (simp only [firstArgMember]; rfl)) ?_)
  refine wpAny_newObj_type ?_ (by size_fits)
  obtain ⟨hh, o1, vs1, g1, d1, c1⟩ := hot
  have k1 : ∀ b o, b ≠ it → s.heap.get? b = some o → (s.heap.update it (Obj.mapFields fun f => f.setIfInBounds 0 .none)).get? b = some o := fun b o nb e => by rw [Heap.get?_update_other _ _ (Ne.symm nb)]; exact e
  refine raiseNew_hot ⟨hh, o1, vs1, Heap.get?_push_of_some _ (Heap.get?_push_of_some _ (k1 x o1 nx g1)), d1, c1⟩ (Nat.ne_of_lt (Heap.lt_size (Heap.get?_push_of_some _ (k1 x o1 nx g1)))) (Heap.get?_push_size _ rfl) rfl (by first | (simp; done) | (simp; omega) | (simp only [Array.size_append]; simp; omega)) ?_
  refine wpAny_bind (wpAny_isInstance (T := "StopIteration") (b := true) ⟨_, Heap.get?_update_self _ (Heap.get?_push_size _ rfl) rfl, rfl⟩ isSubtype_stop ?_)
  refine wpAny_pure (hQ _ fun b o nb e => ?_)
  rw [Heap.get?_update_other _ _ (Nat.ne_of_gt (Heap.lt_size (Heap.get?_push_of_some _ (k1 b o nb e))))]
  exact Heap.get?_push_of_some _ (Heap.get?_push_of_some _ (k1 b o nb e))
theorem unpackItems_hot {t x : Addr} {items : Array Value} {Q : List Value → Shared → Prop} (hot : HotAt A x s.heap) (ht : IsTup s.heap t items)
    (hQ : ∀ h', Heap.ExtBut s.heap.objs.size s.heap h' → Q items.toList { s with heap := h' }) : wpAny (model prog w) A (unpackItems (.ref t) items.size none) Q E s := by
  have hlt : t ≠ s.heap.objs.size := by obtain ⟨o, ho, _⟩ := ht; exact Nat.ne_of_lt (Heap.lt_size ho)
  unfold unpackItems
  refine wpAny_bind ?_
  · unfold notIterableAtAll
    refine wpAny_bind (wpAny_specialOf ht.typeIs slot_tuple_iter.lookup ?_)
    refine wpAny_pure ?_
    simp only [Bool.false_eq_true, if_false]
    refine wpAny_bind (wpAny_holding (iter_tuple ht ?_))
    refine wpAny_bind (wpAny_holding (draw_tuple hlt items.size 0 _ _ ⟨_, Heap.get?_push_size _ rfl, rfl, rfl⟩ (ht.push _) (by omega) fun h₁ hit₁ hs₁ => ?_))
    have hall : List.take items.size (List.drop 0 items.toList) = items.toList := by
      rw [List.drop_zero]; exact List.take_of_length_le (by simp)
    rw [hall]
    rw [if_neg (by simp)]
    have ht₁ : IsTup h₁ t items := (ht.push _).extBut hs₁.extBut hlt
    have hot₁ : HotAt A x h₁ := by
      obtain ⟨hh, o1, vs1, g1, d1, c1⟩ := hot
      exact ⟨hh, o1, vs1, hs₁.extBut x o1 (Nat.ne_of_lt (Heap.lt_size g1)) (Heap.get?_push_of_some _ g1), d1, c1⟩
    refine wpAny_bind (wpAny_holding (next_tup_hot hot₁ hit₁ ht₁ (by simp) fun h₂ he₂ => ?_))
    simp only [Option.isSome_none, Bool.false_eq_true, if_false]
    refine wpAny_pure (hQ h₂ fun b o hb e => he₂ b o hb (hs₁.extBut b o hb (Heap.get?_push_of_some _ e)))
theorem assign_Tuple_hot {env : PySem.Env} {elts : List Expr} {x1} {pos : Pos} {t x : Addr} {items : Array Value} {Q : Unit → Shared → Prop} (hot : HotAt A x s.heap) (ht : IsTup s.heap t items)
    (hn : (assignEach elts env).length = items.size) (hstar : (assignEach elts env).findIdx? (·.1) = none)
    (h : ∀ h', Heap.ExtBut s.heap.objs.size s.heap h' → wpAny (model prog w) A (assignInOrder ((assignEach elts env).map (·.2)) items.toList) Q E { s with heap := h' }) :
    wpAny (model prog w) A (assign (.Tuple elts x1 pos) env (.ref t)) Q E s := by
  rw [assign_Tuple]
  refine wpAny_bind (wpAny_standAt ?_)
  unfold unpack
  rw [hn, hstar]
  exact wpAny_bind (wpAny_holding (unpackItems_hot hot ht h))
end
theorem pg_tupX {X : Cx} {es : List Expr} {k : Nat} {t : TGs} {n : Nat} {pos : Pos} (hc : ∀ pins σ H s, Inv X pins σ H s → ∃ x, HotAt X.A x s.heap) (h : PGs X es t)
    (hn : (assignEach es X.env).length = n := by rfl) (hst : (assignEach es X.env).findIdx? (·.1) = none := by rfl) : PG X (.Tuple es k pos) (gTup X.K n t) := by
  refine ⟨fun pins s σ H v u Q I r hw => ?_⟩
  obtain ⟨a, xs, e1, hq, hl, hw⟩ := hw
  subst e1
  cases r
  obtain ⟨its, rv, ht, hz⟩ := I.tuple hq
  obtain ⟨x1, hot⟩ := hc _ _ _ _ I
  refine assign_Tuple_hot hot ht (by simp [hn, ← hl, rv.length]) hst fun h' hx => ?_
  have I1 : Inv X pins σ H { s with heap := h' } := I.kept (t' := s.toks) fun b o e => hx b o (Nat.ne_of_lt (Heap.lt_size e)) e
  exact h.run pins _ σ H xs _ Q I1 (by simpa using rv) hw
theorem prd_tupX {X : Cx} {vs : List Nat} {es : List Expr} {k : Nat} {u : List D → Rho → Option Rho} {n : Nat} {pos : Pos} (hc : ∀ pins σ H s, Inv X pins σ H s → ∃ x, HotAt X.A x s.heap) (h : PGs X es (tgsR X.gc vs u)) (hn : (assignEach es X.env).length = n := by rfl) (hst : (assignEach es X.env).findIdx? (·.1) = none := by rfl) : PG X (.Tuple es k pos) (tgR X.gc vs (rtT n u)) :=
  pg_imp (pg_tupX hc h hn hst) fun v σ H Q ⟨F, ρ, d, R, e, hv, ρ', e1, k⟩ => by
    cases hv with
    | @tup a xs ds h1 h2 =>
      have e1' : (if ds.length = n then u ds ρ else none) = some ρ' := e1
      by_cases q : ds.length = n
      · rw [if_pos q] at e1'
        exact ⟨a, xs, rfl, ex_t e h1, h2.len.trans q, F, ρ, ds, R, e, h2, ρ', e1', k⟩
      · rw [if_neg q] at e1'; cases e1'
    | _ => simp [rtT] at e1
end DL
end

section
set_option Elab.async false
set_option linter.all false
set_option maxRecDepth 100000
set_option maxHeartbeats 4000000
/-! The data layer, part 32: str(number), split, get of a dict of the module, a list some times over; what is never reached. -/
namespace DL
open PySem PySem.Spec PyProof.Rows L2
/-! ### str(i) -/
def strcD : List D → Option D
  | [.int i] => if decide (i.natAbs < 2 ^ 1000) then some (.str (toString i)) else none
  | _ => none
section
variable {G : GC}
theorem cd_str : CallD G (fun xs H Q => ∃ i, xs = [.int i] ∧ i.natAbs.log2 < 1920 ∧ Q (.str (toString i)) H) strcD := fun F H xs ds z Q e hx h k => by
  unfold strcD at h
  split at h
  · rename_i i
    obtain ⟨hs, rfl⟩ := ifSome h
    obtain ⟨v, rfl, hv⟩ : ∃ v, xs = [v] ∧ DD G F v (.int i) := by
      cases hx with
      | cons h t => cases t; exact ⟨_, rfl, h⟩
    refine ⟨i, by rw [hv.inv_int], ?_, stays e k (.str _)⟩
    have h1 := of_decide_eq_true hs
    rcases Nat.eq_zero_or_pos i.natAbs with q | q
    · rw [q]; decide
    · exact Nat.lt_of_lt_of_le ((Nat.log2_lt (by omega)).mpr h1) (by decide)
  · cases h
end
section
variable {X : Cx} {p : Option PQ} {E : XK} {e o : Expr} {es : List Expr} {f g : EM} {h : AM} {q pos apos : Pos}
theorem pd_strc (hm : X.mg "str" = none) (h1 : PAD X p E (e :: es) h) (hg : Gl X "str" := by rfl) (he : starEach (e :: es) X.env = (false, eval e X.env) :: starEach es X.env := by rfl) (hpl : (backTo pos (starEach es X.env)).any (·.1) = false := by rfl) : PED X p E (.Call (.Name "str" q) (e :: es) [] pos) (eCB strcD h) :=
  pd_callTy call_str_int cd_str hg hm (by decide +kernel) h1 (by decide) (by decide) he hpl
/-! ### x.split(sep) -/
def splitD : D → D → Option D
  | .str a, .str b => if decide (b.length ≠ 0) && small a.length then some (.list ((Txt.split a b).map .str)) else none
  | _, _ => none
def eSplit (fa fb : EM) : EM := fun ρ s => (fa ρ s).bind fun x => if isStr x.1 then (fb ρ x.2).bind fun y => ofO (splitD x.1 y.1) y.2 else .un
theorem dds_strs {G : GC} {F : Hp} : ∀ ys : List Str, DDs G F (ys.map V.str) (ys.map .str)
  | [] => .nil
  | y :: ys => .cons (.str y) (dds_strs ys)
theorem pd_split (ho : PED X p E o f) (he : PED X p E e g) (hs : starEach [e] X.env = [(false, eval e X.env)] := by rfl) (hbase : attributeBase o "split" X.env (eval o X.env) = eval o X.env := by rfl) (hline : (apos.endLine == pos.line) = true := by rfl) :
    PED X p E (.Call (.Attribute o "split" apos) [e] [] pos) (eSplit f g) :=
  pe_imp (pe_m1 F.slot_str_split F.type_str_split mt_split ho he hs hbase hline) fun σ H Q ⟨F, ρ, s, pre, post⟩ => ⟨F, ρ, s, pre, Post.bind post fun d1 s1 F1 x H1 e1 x1 r1 q1 post1 => by
    cases hx : isStr d1 with
    | false => simp only [hx] at post1; exact post1.elim
    | true =>
      simp only [hx, if_true] at post1
      obtain ⟨a, rfl⟩ := isStr_some hx
      rw [q1.inv_str]
      refine ⟨⟨a, rfl⟩, F1, ρ, s1, pre.next x1 r1, Post.bind post1 fun d2 s2 F2 y H2 e2 x2 r2 q2 post2 => ?_⟩
      obtain ⟨z, ez, post3⟩ := ofO_post post2
      cases d2 with
      | str b =>
        obtain ⟨hs, rfl⟩ := ifSome (show (if (decide (b.length ≠ 0) && small a.length) = true then some (PyData.list ((Txt.split a b).map .str)) else none) = some z from ez)
        obtain ⟨h1, h2⟩ := band hs
        rw [q2.inv_str]
        have hl : a.length ≤ 1000000 := of_decide_eq_true h2
        refine ⟨a, b, rfl, rfl, by simpa using of_decide_eq_true h1, Nat.le_trans (Nat.add_le_add_right hl 2) (by decide), fun p' hp' => ?_⟩
        exact post_end post3 r2 _ _ _ (Ext.new x2.fh hp') (.lst (SqL.of upd_same) (dds_strs _))
      | _ => simp [splitD] at ez⟩
end
/-! ### a dict of the module: text to number -/
def dtGo : List DictEntry → Option (List (Str × Int))
  | [] => some []
  | e :: es => match e.key, e.val, dtGo es with
    | .str x _, .int i _, some r => some ((x, i) :: r)
    | _, _, _ => none
def dictTab (K : PySem.W.Frag) (d : Addr) : Option (List (Str × Int)) := match K.lookup d with
  | some ⟨_, _, .dict es _, _⟩ => dtGo es.toList
  | _ => none
structure DicF (G : GC) (x : Str) (tab : List (Str × Int)) : Prop where
  gl : G.mg x = some (.ref (He.ga G.K x))
  kd : ∃ es n, KDict G.K G.w (He.ga G.K x) es n
  tb : dictTab G.K (He.ga G.K x) = some tab
theorem find_tab : ∀ {es : List DictEntry} {tab : List (Str × Int)} {z : Str}, dtGo es = some tab →
    (∀ e ∈ es, e.refKey = false) ∧ match tab.lookup z with
      | some i => ∃ e t, es.find? (fun e => e.key.isStr z) = some e ∧ e.val = .int i t
      | none => es.find? (fun e => e.key.isStr z) = none
  | [], tab, z, h => by
    cases h
    exact ⟨fun _ h => (nomatch h), rfl⟩
  | e :: es, tab, z, h => by
    obtain ⟨hs, key, val⟩ := e
    unfold dtGo at h
    cases hr : dtGo es with
    | none => rw [hr] at h; simp at h
    | some tab' =>
      rw [hr] at h
      cases key with
      | str x t =>
        cases val with
        | int i u =>
          have h' : (x, i) :: tab' = tab := Option.some.inj h
          subst h'
          obtain ⟨i1, i2⟩ := find_tab (z := z) hr
          refine ⟨fun e he => ?_, ?_⟩
          · rcases List.mem_cons.mp he with rfl | he
            · rfl
            · exact i1 e he
          · have e1 : (Value.str x t).isStr z = (z == x) := by
              show (x == z) = (z == x)
              exact Bool.eq_iff_iff.mpr ⟨fun q => by rw [beq_iff_eq] at q ⊢; exact q.symm, fun q => by rw [beq_iff_eq] at q ⊢; exact q.symm⟩
            rw [List.lookup_cons, List.find?_cons]
            show match (match z == x with | true => some i | false => tab'.lookup z) with | some i => _ | none => _
            rw [e1]
            cases z == x with
            | true => exact ⟨_, u, rfl, rfl⟩
            | false => exact i2
        | _ => simp at h
      | _ => simp at h
theorem nsIn_tab {K : PySem.W.Frag} {d : Addr} {tab : List (Str × Int)} (h : dictTab K d = some tab) (z : Str) : ∃ r, PySem.W.nsIn K d z = some r ∧ match tab.lookup z with
    | some i => ∃ t, r = some (.int i t)
    | none => r = none := by
  unfold dictTab at h
  unfold PySem.W.nsIn
  cases q : K.lookup d with
  | none => rw [q] at h; cases h
  | some o =>
    obtain ⟨oc, od, dt, sl⟩ := o
    rw [q] at h
    cases dt with
    | dict es n =>
      obtain ⟨i1, i2⟩ := find_tab (z := z) h
      simp only
      cases hl : tab.lookup z with
      | some i =>
        rw [hl] at i2
        obtain ⟨e, t, e1, e2⟩ := i2
        rw [e1]
        exact ⟨_, rfl, t, by rw [e2]⟩
      | none =>
        rw [hl] at i2
        have e1 : es.toList.find? (fun e => e.key.isStr z) = none := i2
        rw [e1]
        simp only
        have e2 : es.toList.any (·.refKey) = false := by
          rw [List.any_eq_false]
          intro e he
          rw [i1 e he]
          exact Bool.false_ne_true
        rw [e2]
        exact ⟨none, rfl, rfl⟩
    | _ => cases h
def getTD (tab : List (Str × Int)) : D → Option D
  | .str z => some (match tab.lookup z with
    | some i => .int i
    | none => .none)
  | _ => none
section
variable {X : Cx} {p : Option PQ} {E : XK}
theorem pd_getT {x : Str} {tab : List (Str × Int)} {e : Expr} {f : EM} {q apos cpos : Pos} (T : DicF X.gc x tab) (he : PED X p E e f) (hg : Gl X x := by rfl) (hdb : (x == ("__debug__" : Str)) = false := by decide)
    (hbase : attributeBase (.Name x q) "get" X.env (eval (.Name x q) X.env) = eval (.Name x q) X.env := by rfl)
    (hfew : ((backTo cpos (starEach (e :: []) X.env)).all (fun x => !x.1) && (backToKw cpos (keywordEach [] X.env)).all (fun x => x.1.isSome)
      && decide ((e :: ([] : List Expr)).length + ([] : List Keyword).length + (if ([] : List Keyword).isEmpty then 0 else 1) < 30)) = true := by rfl)
    (hline : (apos.endLine == cpos.line) = true := by rfl) (hs : starEach (e :: []) X.env = (false, eval e X.env) :: starEach [] X.env := by rfl) :
    PED X p E (.Call (.Attribute (.Name x q) "get" apos) (e :: []) [] cpos) (eUn (getTD tab) f) := by
  refine ⟨fun pins s σ H Q I h => ?_⟩
  obtain ⟨es, n, D⟩ := T.kd
  refine wpAny_Call_method_late hbase hfew hline rfl (ld_glob I hg T.gl ?_ hdb)
  have M1 := PySem.W.mapOf_K (prog := X.prog) (w := X.w) I.kIn D.at_ D.lit
  refine ⟨"dict", "dict.get", PySem.F.plainAttrs_dict, PySem.F.slot_dict_get, PySem.F.type_dict_get, M1.typeIs, fun b e' => ?_, ?_⟩
  · cases e'
    exact ⟨_, I.kIn _ _ D.at_, rfl⟩
  rw [hs]
  have hw : tD X.gc p E f σ H (fun v H1 => ∃ z, v = .str z ∧ Q (match tab.lookup z with | some i => .int i | none => .non) H1) := by
    obtain ⟨F, ρ, sp, pre, post⟩ := h
    refine ⟨F, ρ, sp, pre, Post.bind post fun d1 s1 F1 v H1 e1 x1 r1 q1 post1 => ?_⟩
    obtain ⟨y, ey, post2⟩ := ofO_post post1
    cases d1 with
    | str z =>
      refine ⟨z, q1.inv_str, ?_⟩
      cases ey
      cases hl : tab.lookup z with
      | some i => rw [hl] at post2; exact post_end post2 r1 _ _ _ (Ext.refl x1.fh) (.int i)
      | none => rw [hl] at post2; exact post_end post2 r1 _ _ _ (Ext.refl x1.fh) .non
    | _ => cases ey
  refine Calls.callWith_builtin rfl (Calls.evalArgs_plain (Calls.spliced_cons (thn (he.run pins s σ H _ I hw) fun iv s2 ⟨y, H2, I2, ry, z, ey, q2⟩ => Calls.spliced_nil ?_)))
  subst ey
  obtain ⟨t, rfl⟩ := ry
  have M2 := PySem.W.mapOf_K (prog := X.prog) (w := X.w) I2.kIn D.at_ D.lit
  obtain ⟨r, hr, hm⟩ := nsIn_tab T.tb z
  refine call_meetsIn PySem.F.slot_dict_get M2.typeIs PySem.F.entry_dict_get (PySem.F.args_dict_get_2 _ _) (meets_dict_get (PySem.strKind X.prog X.w) (He.ga X.K x) (PySem.strKind_is X.prog X.w z t) D.low) ⟨_, M2, ?_⟩
  rw [PySem.W.find_K D.at_ hr]
  cases hl : tab.lookup z with
  | some i =>
    rw [hl] at hm q2
    obtain ⟨t2, rfl⟩ := hm
    exact ⟨.int i, H2, I2.tok _, ⟨t2, rfl⟩, q2⟩
  | none =>
    rw [hl] at hm q2
    have hm' : r = none := hm
    subst hm'
    exact ⟨.non, H2, I2.tok _, rfl, q2⟩
end
/-! ### what is never reached -/
def gUn : SM := fun _ _ => .un
theorem psd_un {X : Cx} {p : Option PQ} {E : XK} {F0 H0 : Hp} {st : Stmt} : PSD X p E F0 H0 st gUn := ⟨fun _ _ _ _ _ _ ⟨_, _, _, _, q⟩ => q.elim⟩
theorem pssd_un {X : Cx} {p : Option PQ} {E : XK} {F0 H0 : Hp} {st : List Stmt} : PSsD X p E F0 H0 st gUn := ⟨fun _ _ _ _ _ _ ⟨_, _, _, _, q⟩ => q.elim⟩
/-! ### a list some times over -/
def mulLD : D → D → Option D
  | .list xs, .int k => if decide (0 ≤ k) && (decide (k ≤ 1000) && decide (xs.length ≤ 1000)) then some (.list (List.replicate k.toNat xs).flatten) else none
  | _, _ => none
end DL
end

section
set_option Elab.async false
set_option linter.all false
set_option maxRecDepth 100000
set_option maxHeartbeats 4000000
/-! The data layer, part 33: [..] * k. -/
namespace DL
open PySem PySem.Spec PyProof.Rows L2
theorem Post.from {α β : Type} {G : GC} {p : Option PQ} {E : XK} {F H F' H' : Hp} {r : R (α × List D)} {rel : Hp → Hp → β → α → Prop} {Q : β → Hp → Prop} (h : Post G p E F H r rel Q) (x : Ext G p F H F' H') : Post G p E F' H' r rel Q := by
  cases r with
  | un => exact h
  | ex e => exact fun F2 H2 y => h F2 H2 (x.trans y)
  | ok z => exact fun F2 v H2 y b c => h F2 v H2 (x.trans y) b c
section
variable {X : Cx} {p : Option PQ} {E : XK} {es : List Expr} {b : Expr} {h : AM} {g : EM} {lp pos : Pos}
theorem pd_litMul (h1 : PAD X p E es h) (h2 : PED X p E b g) : PED X p E (.BinOp (.List es lp) .Mult b pos) (eOp mulLD (eLstS h) g) :=
  pe_imp (pe_op op_rep (pe_lst h1) h2) fun σ H Q ⟨F, ρ, s, pre, post⟩ => by
    have post' : Post X.gc p E F H ((h ρ s).bind fun z => (ofO (if small z.1.length then some (PyData.list z.1) else none) z.2).bind fun z => (g ρ z.2).bind fun y => ofO (mulLD z.1 y.1) y.2) (fun F' _ v d => DD X.gc F' v d) Q := by
      rw [← bind_assoc]
      exact post
    refine ⟨F, ρ, s, pre, Post.bind post' fun d1 s1 F1 xs H1 e1 x1 r1 q1 post1 => ?_⟩
    cases hs : small d1.length with
    | false => rw [hs] at post1; exact post1.elim
    | true =>
      simp only [hs, if_true, ofO_some, bind_ok] at post1
      refine ⟨Nat.le_of_lt (by rw [q1.len]; exact small_line hs), fun q hq => ?_⟩
      have x2 : Ext X.gc p F1 H1 (upd F1 q (.lst xs)) (upd H1 q (.lst xs)) := Ext.new x1.fh hq
      refine ⟨_, ρ, s1, (pre.next x1 r1).next x2 (r1.ext (Ext.new x1.fh hq)), Post.bind (post1.from x2) fun d2 s2 F2 y H2 e2 x3 r2 q2 post2 => ?_⟩
      obtain ⟨z, ez, post3⟩ := ofO_post post2
      cases d2 with
      | int k =>
        obtain ⟨hk, rfl⟩ := ifSome (show (if (decide (0 ≤ k) && (decide (k ≤ 1000) && decide (d1.length ≤ 1000))) = true then some (PyData.list (List.replicate k.toNat d1).flatten) else none) = some z from ez)
        obtain ⟨k0, k12⟩ := band hk
        obtain ⟨k1, k2⟩ := band k12
        have k0 := of_decide_eq_true k0
        have k1 := of_decide_eq_true k1
        have k2 := of_decide_eq_true k2
        rw [q2.inv_int]
        have hF : upd F1 q (.lst xs) q = some (.lst xs) := upd_same
        refine ⟨q, k, xs, rfl, rfl, x3.fh _ _ (x3.ff _ _ hF), by omega, by omega, ?_, fun p' hp' => ?_⟩
        · rw [q1.len]
          have : d1.length * k.toNat ≤ 1000 * 1000 := Nat.mul_le_mul k2 (by omega)
          exact Nat.le_trans this (by decide)
        · have dd : DDs X.gc F2 (List.replicate k.toNat xs).flatten (List.replicate k.toNat d1).flatten := ((q1.ex x2.ff).ex x3.ff).rep _
          exact post_end post3 r2 _ _ _ (Ext.new x3.fh hp') (.lst (SqL.of upd_same) (dd.ex (Ext.new (G := X.gc) (q := none) x3.fh hp').ff))
      | _ => cases ez
end
end DL
end

section
set_option Elab.async false
set_option linter.all false
set_option maxRecDepth 100000
set_option maxHeartbeats 4000000
/-! The data layer, part 34: set(t), t a tuple of two pairs at most. -/
namespace DL
open PySem PySem.Spec PyProof.Rows L2
section
variable {P : Program} {w : World} {A : Around} {E : Value → Shared → Prop} {s : Shared}
set_option maxHeartbeats 6400000 in
/-- set(l), l a tuple of two such tuples at most -/
theorem call_set_mT {l : Addr} {items : Array Value} (ks : List (Addr × List Key)) {Q : Value → Shared → Prop} (hh : A.handled = none) (hl : s.heap.IsTuple l items) (hit : items.toList = ks.map fun q => Value.ref q.1)
    (hk : ∀ q ∈ ks, IsM P w s.heap q.2 q.1) (h2 : ks.length ≤ 2) (hu : A.units + 3 < cLine)
    (h : ∀ (h' : Heap) (tk : Nat) L es ep t, SetM P w h' s.heap.objs.size L es ep t → GotM ks ks.length L → (∀ b o, s.heap.get? b = some o → h'.get? b = some o) → Q (.ref s.heap.objs.size) { s with heap := h', toks := tk }) :
    wpAny (model P w) A (call (.type "set") [.ref l]) Q E s := by
  have isz : items.size = ks.length := by
    rw [← Array.length_toList, hit, List.length_map]
  obtain ⟨c, tl, hmro⟩ := F.called_set.mro
  have hmade := F.called_set.made
  have hsub := F.called_set.sub
  refine wpAny_call (codeAny_of_tree ?_)
  show wpAny _ _ (callAny (.type "set") _) _ _ _
  refine wpAny_pure ⟨Code.quiet_builtin _ (by decide +kernel), codeAny_builtin F.entry_type_call ?_⟩
  rw [Around.under_plain (weight_type_call_type "set" [.ref l] []) rfl]
  have hnt := F.called_set.notType
  have hcc := F.called_set.canCreate
  have hct := F.typeCall_set_1 (.ref l)
  repeat (any_goals (first | assumption | wp_step))
  refine codeAny_mono (code_set_led1 (.ref l) (E := E) (Q₁ := fun obj s₁ => obj = .ref s.heap.objs.size ∧ s₁ = { s with heap := s.heap.push (newSet w) }) ⟨rfl, rfl⟩) fun r s₁ hr => ?_
  cases r with
  | error e => exact hr
  | ok fl =>
    cases fl with
    | ret obj =>
      obtain ⟨rfl, rfl⟩ := hr
      have hS : (s.heap.push (newSet w)).get? s.heap.objs.size = some (newSet w) := Heap.get?_push_size _ rfl
      have hT : Shared.TypeIs { s with heap := s.heap.push (newSet w) } (.ref s.heap.objs.size) "set" := ⟨_, hS, rfl⟩
      have hli := F.called_set.init.lookup
      have hbi := F.called_set.init.bind (.ref s.heap.objs.size)
      repeat (any_goals (first | assumption | wp_step))
      refine codeAny_mono (codeAny_call_builtin (R := wants (fun r s₂ => r = .none ∧ ∃ h' tk L es ep t, s₂ = { s with heap := h', toks := tk } ∧ SetM P w h' s.heap.objs.size L es ep t ∧ GotM ks ks.length L ∧
          (∀ b o, s.heap.get? b = some o → h'.get? b = some o)) E) F.called_set.init.plain F.entry_set_init (check_set_init_1 hT ?_)) fun r₂ s₂ hr₂ => ?_
      · obtain ⟨⟨ocls, odict, odata, oslots⟩, hol, hcl, nl, hdl⟩ := hl
        simp only at hcl hdl
        subst hcl hdl
        have hol1 : (s.heap.push (newSet w)).get? l = some { cls := .type "tuple", dict := odict, data := .seq items nl, slots := oslots } := Heap.get?_push_of_some _ hol
        have g1 := F.sub_tuple_set
        have g2 := F.sub_tuple_frozenset
        have g3 : (Value.type "tuple" == Value.type "dict") = false := by decide
        have isl : (s.heap.push (newSet w)).IsTuple l items := ⟨_, hol1, rfl, nl, rfl⟩
        unfold Builtin.«set.__init__» noKeywords Builtin.Frozenset.updateFrom
        generalize hPI : pyIter = PI
        wp_walk
        subst hPI
        refine wpAny_pyIter_tuple isl (wpAny_bind (wpAny_runValue ?_))
        have lt : l < s.heap.objs.size := Heap.lt_size hol
        have hdl : A.in1.in1.in1.handled = none := by simp [hh]
        have ne1 : l ≠ (s.heap.push (newSet w)).objs.size := by
          rw [Heap.size_push]; exact Nat.ne_of_lt (Nat.lt_succ_of_lt lt)
        have nf : s.heap.objs.size ∉ [(s.heap.push (newSet w)).objs.size, l] := by
          rw [Heap.size_push]
          simp only [List.mem_cons, List.mem_singleton, List.not_mem_nil, or_false, not_or]
          exact ⟨Nat.ne_of_lt (Nat.lt_succ_self _), Nat.ne_of_gt lt⟩
        have vals : ∀ (i : Nat) (v : Value), items[i]? = some v → ∃ q, ks[i]? = some q ∧ v = .ref q.1 := fun i v hv => by
          rw [← Array.getElem?_toList, hit, List.getElem?_map] at hv
          cases e : ks[i]? with
          | none => rw [e] at hv; cases hv
          | some q =>
            rw [e] at hv
            exact ⟨q, rfl, (Option.some.inj hv).symm⟩
        have no : ∀ b, s.heap.objs.size ≤ b → s.heap.get? b = none := fun b hb => by
          cases e : s.heap.get? b with
          | none => rfl
          | some o => exact absurd (Nat.lt_of_lt_of_le (Heap.lt_size e) hb) (Nat.lt_irrefl _)
        refine update_m ((Walks.tuple hdl _ l ne1 items).toS) s.heap.objs.size nf ks isz h2 vals s.heap hk (no _ (Nat.le_refl _)) (fun b hb => no b (by
            rw [List.mem_singleton.mp hb, Heap.size_push]
            exact Nat.le_succ _)) hu items.size 0 _ (Nat.zero_add _)
          ⟨⟨_, Heap.get?_push_size _ rfl, rfl, rfl⟩, (isl.push _)⟩ (fun b o e => Heap.get?_push_of_some _ (Heap.get?_push_of_some _ e)) ⟨[], #[], 0, _, setM_new (Heap.get?_push_of_some _ hS), ⟨fun q hq => (nomatch hq), fun q hq => by simp at hq, Nat.le_refl _⟩⟩ ?_
        intro s' L es ep t hm hS' g' old
        obtain ⟨h', gg, dd, tk', oo⟩ := s'
        have eg : gg = s.gens := hm.gens
        have ed : dd = s.drawn := hm.drawn
        have eo : oo = s.os := hm.os
        subst eg ed eo
        show wpAny _ _ _ _ _ _
        refine wpAny_pure ?_
        show wpAny _ _ (ret Value.none) _ _ _
        rw [isz] at g'
        exact wpAny_pure ⟨rfl, h', tk', L, es, ep, t, rfl, hS', g', old⟩
      · cases r₂ with
        | error e => exact hr₂
        | ok fl₂ =>
          cases fl₂ with
          | ret r =>
            obtain ⟨rfl, h', tk, L, es, ep, t, rfl, hS', g', old⟩ := hr₂
            repeat (any_goals (first | assumption | wp_step))
            exact h _ _ _ _ _ _ hS' g' old
          | _ => exact hr₂.elim
    | _ => exact hr.elim
end
section
variable {X : Cx}
def rSetMT (K : PySem.W.Frag) (P : Program) (w : World) : List V → Hp → VK → Prop := fun xs H Q => ∃ (l : Addr) (ks : List (Addr × List Key)), xs = [V.ref l] ∧ SqT K H l (ks.map fun q => V.ref q.1) ∧ (∀ q ∈ ks, SqT K H q.1 (q.2.map kV)) ∧ ks.length ≤ 2 ∧
  ∀ a L, H a = none → GotM ks ks.length L → (L.map (·.2)).Nodup → Q (.ref a) (upd H a (SetMO P w a L))
theorem cr_setMT (hc : X.calm = true) (hu : X.A.units + 64 < cLine) : CallR X (.type "set") (rSetMT X.K X.prog X.w) := by
  intro pins s σ H xs us Q I r ⟨l, ks, e, hl, hk, hf, q⟩
  subst e
  rw [Vals.ref1 r]
  obtain ⟨its, rv, pl, hz⟩ := I.tuple hl
  refine call_set_mT (P := X.prog) (w := X.w) ks (I.ok.hd hc) pl (by simpa using refs_are rv) (fun p hp => isM_of I (hk p hp)) hf (by omega) fun h' tk L es ep t R g k => ?_
  exact ⟨.ref s.heap.objs.size, _, I.laid (t' := tk) k (Nat.le_refl _) R.obj, rfl, q _ L (I.hok.fresh (Nat.le_refl _)) g R.nd⟩
end
def sortSetTD : D → Option D
  | .tuple ds => (sortSetL ds).map .list
  | _ => none
section
variable {X : Cx} {E : XK} {p : Option PQ} {e : Expr} {f : EM} {pos q pos2 q2 : Pos}
theorem pd_sortSetT (hc : X.calm = true) (hu : X.A.units + 64 < cLine) (hm : X.mg "sorted" = none) (hm2 : X.mg "set" = none) (h1 : PED X p E e f) (hg : Gl X "sorted" := by rfl) (hg2 : Gl X "set" := by rfl)
    (he : starEach [e] X.env = [(false, eval e X.env)] := by rfl) (he2 : starEach [.Call (.Name "set" q2) [e] [] pos2] X.env = [(false, eval (.Call (.Name "set" q2) [e] [] pos2) X.env)] := by rfl) : PED X p E (.Call (.Name "sorted" q) [.Call (.Name "set" q2) [e] [] pos2] [] pos) (eUn sortSetTD f) :=
  pe_imp (pe_callB (cr_sortM hc hu) hg hm (by decide +kernel) (pa_cons (pe_callTy (cr_setMT hc hu) hg2 hm2 (by decide +kernel) (pa_cons h1 pa_nil he) (by decide) (by decide) he rfl) pa_nil he2) (by decide) (by decide) he2 rfl) fun σ H Q ⟨F, ρ, s, pre, post⟩ => ⟨F, ρ, s, pre, Post.bind post fun d1 s1 F1 x H1 e1 x1 r1 q1 post1 => by
    obtain ⟨z, ez, post2⟩ := ofO_post post1
    have k := post_end post2 r1
    unfold sortSetTD at ez
    split at ez
    · rename_i ds hds
      have hds' : d1 = .tuple ds := hds
      subst hds'
      cases hz : sortSetL ds with
      | none => rw [hz] at ez; cases ez
      | some zs =>
        rw [hz] at ez
        cases ez
        cases q1 with
        | @tup l vs ds h2 h3 =>
          obtain ⟨ks, rfl, k2, k3, k4, rfl⟩ := sortL_ks h3 hz
          refine ⟨l, ks, rfl, ex_t x1.fh h2, fun q hq => ex_t x1.fh (k2 q hq), k4, fun a L ha g nd => ?_⟩
          have xa : Ext X.gc none F1 H1 F1 (upd H1 a (SetMO X.prog X.w a L)) := Ext.mine x1.fh ha
          refine ⟨a, L, rfl, upd_same, fun q hq => ?_, fun q hq => ?_, fun L1 b pm hb => ?_⟩
          · have := g.sub q hq
            rw [List.take_length] at this
            exact ex_t xa.fh (k2 q this)
          · have := g.sub q hq
            rw [List.take_length] at this
            exact k3 q this
          · obtain ⟨g1, g2⟩ := sort_data k3 hz g nd pm
            have xb := Ext.new (G := X.gc) (q := none) (o := .lst ((L1.mergeSort (PySem.W.dataLe false fun q => kD q.2)).map fun q => V.ref q.1)) xa.fh hb
            refine k _ _ _ (xa.trans xb) (.lst (SqL.of upd_same) ?_)
            rw [← g1]
            have gen : ∀ M : List (Addr × List Key), (∀ q ∈ M, q ∈ ks) → DDs X.gc (upd F1 b (.lst ((L1.mergeSort (PySem.W.dataLe false fun q => kD q.2)).map fun q => V.ref q.1))) (M.map fun q => V.ref q.1) (M.map fun q => kD q.2) := fun M => by
              induction M with
              | nil => exact fun _ => .nil
              | cons q M ih =>
                intro hm
                obtain ⟨x, i, ex⟩ := k3 q (hm q List.mem_cons_self)
                have sq := k2 q (hm q List.mem_cons_self)
                rw [ex] at sq
                refine .cons ?_ (ih fun r hr => hm r (List.mem_cons_of_mem _ hr))
                show DD X.gc _ (V.ref q.1) (kD q.2)
                rw [ex]
                exact .tup (ex_t xb.ff sq) (.cons (.str x) (.cons (.int i) .nil))
            exact gen _ fun q hq => g2 q ((List.mergeSort_perm L1 _).mem_iff.mp hq)
    · cases ez⟩
end
end DL
end

section
set_option Elab.async false
set_option linter.all false
set_option maxRecDepth 100000
set_option maxHeartbeats 4000000
/-! The data layer, part 35: a comprehension within a comprehension. -/
namespace DL
open PySem PySem.Spec PyProof.Rows L2
theorem relabel_cf (c : Str → NameKind → Bool) : ∀ (names : List (Str × NameKind)) (x : Str), (names.lookup x = some .cell ∨ names.lookup x = some .free) →
    ((names.map fun q => if (q.2 == NameKind.free && c q.1 q.2) then (q.1, NameKind.cell) else (q.1, q.2)).lookup x = some .cell ∨ (names.map fun q => if (q.2 == NameKind.free && c q.1 q.2) then (q.1, NameKind.cell) else (q.1, q.2)).lookup x = some .free)
  | [], _, h => by simp at h
  | (n, k) :: r, x, h => by
    have ih := relabel_cf c r x
    rw [List.lookup_cons] at h
    rw [List.map_cons]
    cases hx : (x == n) with
    | true =>
      rw [hx] at h
      have h' : some k = some NameKind.cell ∨ some k = some NameKind.free := h
      cases hc : (k == NameKind.free && c n k) with
      | true => left; simp only [hc, if_true, List.lookup_cons, hx]
      | false =>
        simp only [hc, Bool.false_eq_true, if_false, List.lookup_cons, hx]
        exact h'
    | false =>
      rw [hx] at h
      have h' := ih h
      cases hc : (k == NameKind.free && c n k) with
      | true => simp only [hc, if_true, List.lookup_cons, hx]; exact h'
      | false => simp only [hc, Bool.false_eq_true, if_false, List.lookup_cons, hx]; exact h'
theorem blkOk_in {N : List Str} {s0 scope : Scope} {cl : List (Str × Addr)} {C : Addr} {env : PySem.Env} {own : List (Str × Nat)} (h : blkC N s0 scope own = true) : BlkOk N (compEnvC s0 cl C env).scope scope own := by
  obtain ⟨h1, h2, h3, h4, h5⟩ := blkOk_by h
  refine ⟨h1, h2, h3, fun y hy e => ?_, h5⟩
  have := relabel_cf (fun n k => env.scope.kind == .function && env.kindOf n == some .cell) s0.names y.1 (h4 y hy e)
  simp only [← Bool.and_assoc] at this
  exact this
end DL
end

section
set_option Elab.async false
set_option linter.all false
set_option maxRecDepth 100000
set_option maxHeartbeats 4000000
/-! The data layer, part 36: bools among numbers, isinstance of two types, a list of one's own out of another, xs[k] = e. -/
namespace DL
open PySem PySem.Spec PyProof.Rows L2
/-! ### bools among numbers -/
def rBI (f : Int → Int → Int) : R2 := fun x y H Q => ∃ k j, x = .bl k ∧ y = .int j ∧ Q (.int (f (if k = true then 1 else 0) j)) H
section
variable {X : Cx}
theorem op_addBI : OpR X (binaryOp .Add) (rBI fun i j => i + j) := by
  intro pins s σ H x y v u Q I rx ry h
  obtain ⟨k, j, rfl, rfl, q⟩ := h
  cases rx
  obtain ⟨t, rfl⟩ := ry
  exact PySem.IntBool.add_bool_int ⟨.int _, H, I.tok _, ⟨_, rfl⟩, q⟩
theorem op_subBI : OpR X (binaryOp .Sub) (rBI fun i j => i - j) := by
  intro pins s σ H x y v u Q I rx ry h
  obtain ⟨k, j, rfl, rfl, q⟩ := h
  cases rx
  obtain ⟨t, rfl⟩ := ry
  exact PySem.IntBool.sub_bool_int ⟨.int _, H, I.tok _, ⟨_, rfl⟩, q⟩
def rAddB (K : PySem.W.Frag) : R2 := fun x y H Q => rAddU K x y H Q ∨ rBI (fun i j => i + j) x y H Q
theorem or_addB : OpR X (binaryOp .Add) (rAddB X.K) := or_addU.or op_addBI
def rSubB : R2 := fun x y H Q => rI0 (fun i j => .int (i - j)) x y H Q ∨ rBI (fun i j => i - j) x y H Q
theorem or_subB : OpR X (binaryOp .Sub) rSubB := op_sub.or op_subBI
theorem call_str_bool : CallR X (.type "str") (fun xs H Q => ∃ b, xs = [.bl b] ∧ Q (.str (if b then "True" else "False")) H) := by
  intro pins s σ H xs us Q I r h
  obtain ⟨b, rfl, q⟩ := h
  obtain ⟨u, rfl, r1⟩ := vals1 r
  cases r1
  exact PySem.P.str_of_bool ⟨.str _, H, I.tok _, ⟨_, rfl⟩, q⟩
end
def addBD (x y : D) : Option D := match x, y with
  | .bool k, .int j => some (.int ((if k = true then 1 else 0) + j))
  | x, y => addD x y
def subBD (x y : D) : Option D := match x, y with
  | .bool k, .int j => some (.int ((if k = true then 1 else 0) - j))
  | x, y => subD x y
def notTD : D → Option D
  | .bool b => some (.bool (!b))
  | .int i => some (.bool (!(i != 0)))
  | _ => none
def strBD (ds : List D) : Option D := match ds with
  | [.bool b] => some (.str (if b then "True" else "False"))
  | ds => strcD ds
section
variable {G : GC}
theorem od_addB : OpD G (rAddB G.K) addBD := fun F H x y dx dy z Q e hx hy h k => by
  unfold addBD at h
  split at h
  · cases h
    obtain rfl := hx.inv_bool
    obtain rfl := hy.inv_int
    exact .inr ⟨_, _, rfl, rfl, stays e k (.int _)⟩
  · exact .inl (od_add F H x y _ _ z Q e hx hy h k)
theorem od_subB : OpD G rSubB subBD := fun F H x y dx dy z Q e hx hy h k => by
  unfold subBD at h
  split at h
  · cases h
    obtain rfl := hx.inv_bool
    obtain rfl := hy.inv_int
    exact .inr ⟨_, _, rfl, rfl, stays e k (.int _)⟩
  · exact .inl (od_sub F H x y _ _ z Q e hx hy h k)
theorem cd_strB : CallD G (fun xs H Q => (∃ i, xs = [.int i] ∧ i.natAbs.log2 < 1920 ∧ Q (.str (toString i)) H) ∨ ∃ b, xs = [.bl b] ∧ Q (.str (if b then "True" else "False")) H) strBD := fun F H xs ds z Q e hx h k => by
  unfold strBD at h
  split at h
  · cases h
    obtain ⟨v, rfl, hv⟩ := hx.one_inv
    exact .inr ⟨_, by rw [hv.inv_bool], stays e k (.str _)⟩
  · exact .inl (cd_str F H xs _ z Q e hx h k)
end
section
variable {X : Cx} {p : Option PQ} {E : XK} {a e : Expr} {es : List Expr} {fa f : EM} {h : AM} {pos q : Pos}
theorem pd_notT (h1 : PED X p E a fa) : PED X p E (.UnaryOp .Not a pos) (eUn notTD fa) :=
  pe_imp (pe_notT h1) fun σ H Q ⟨F, ρ, s, pre, post⟩ => ⟨F, ρ, s, pre, Post.bind post fun d1 s1 F1 x H1 e1 x1 r1 q1 post1 => by
    obtain ⟨z, ez, post2⟩ := ofO_post post1
    cases d1 with
    | bool b => cases ez; obtain rfl := q1.inv_bool; exact ⟨_, rfl, Post.okI post2 x1.fh r1 (.bl _)⟩
    | int i => cases ez; obtain rfl := q1.inv_int; exact ⟨_, rfl, Post.okI post2 x1.fh r1 (.bl _)⟩
    | _ => cases ez⟩
theorem pd_strB (hm : X.mg "str" = none) (h1 : PAD X p E (e :: es) h) (hg : Gl X "str" := by rfl) (he : starEach (e :: es) X.env = (false, eval e X.env) :: starEach es X.env := by rfl) (hpl : (backTo pos (starEach es X.env)).any (·.1) = false := by rfl) : PED X p E (.Call (.Name "str" q) (e :: es) [] pos) (eCB strBD h) :=
  pd_callTy (call_str_int.or call_str_bool) cd_strB hg hm (by decide +kernel) h1 (by decide) (by decide) he hpl
/-! ### isinstance(e, (T, U)) -/
def isi2D (t1 t2 : Ty) (d : D) : Option D := if notDict d then some (.bool (isiB d t1 || isiB d t2)) else none
theorem isi2_kit {G : GC} {H : Hp} {v : V} {d : D} (h : DD G H v d) (nd : notDict d = true) (t1 t2 : Ty) : PySem.W.kitAny G.K (.type (tyOf d)) [.type t1.nm, .type t2.nm] = some (isiB d t1 || isiB d t2) := by
  refine kitAny_cons (isi_kit h nd t1) (fun e => kitAny_cons (isi_kit h nd t2) (fun e2 => ?_) fun e2 => ?_) fun e => ?_
  · rw [e, e2]; exact kitAny_nil
  · rw [e2]; simp
  · rw [e]; rfl
theorem pd_isi2 {tn1 tn2 : Str} {q1 q2 pt : Pos} {kt : Nat} (t1 t2 : Ty) (hb1 : bootBuiltins tn1 = some (.type t1.nm)) (hb2 : bootBuiltins tn2 = some (.type t2.nm)) (hm : X.mg "isinstance" = none) (hm1 : X.mg tn1 = none) (hm2 : X.mg tn2 = none) (h1 : PED X p E a fa)
    (hg : Gl X "isinstance" := by rfl) (hg1 : Gl X tn1 := by rfl) (hg2 : Gl X tn2 := by rfl) (hn1 : tn1 ≠ "__name__" := by decide) (hdb1 : (tn1 == ("__debug__" : Str)) = false := by decide) (hn2 : tn2 ≠ "__name__" := by decide) (hdb2 : (tn2 == ("__debug__" : Str)) = false := by decide)
    (he : starEach [a, .Tuple [.Name tn1 q1, .Name tn2 q2] kt pt] X.env = (false, eval a X.env) :: starEach [.Tuple [.Name tn1 q1, .Name tn2 q2] kt pt] X.env := by rfl)
    (he2 : starEach [.Tuple [.Name tn1 q1, .Name tn2 q2] kt pt] X.env = (false, eval (.Tuple [.Name tn1 q1, .Name tn2 q2] kt pt) X.env) :: starEach [] X.env := by rfl)
    (he3 : starEach [.Name tn1 q1, .Name tn2 q2] X.env = (false, eval (.Name tn1 q1) X.env) :: starEach [.Name tn2 q2] X.env := by rfl)
    (he4 : starEach [.Name tn2 q2] X.env = (false, eval (.Name tn2 q2) X.env) :: starEach [] X.env := by rfl)
    (hpl : (backTo pos (starEach [.Tuple [.Name tn1 q1, .Name tn2 q2] kt pt] X.env)).any (·.1) = false := by rfl) :
    PED X p E (.Call (.Name "isinstance" q) [a, .Tuple [.Name tn1 q1, .Name tn2 q2] kt pt] [] pos) (eUn (isi2D t1 t2) fa) :=
  pe_imp (pe_callB call_isiT hg hm (by decide +kernel) (pa_cons h1 (pa_cons (pe_tup (pa_cons (pe_bltn (v := .ty t1.nm) hg1 hm1 hb1 rfl hn1 hdb1) (pa_cons (pe_bltn (v := .ty t2.nm) hg2 hm2 hb2 rfl hn2 hdb2) pa_nil he4) he3)) pa_nil he2) he) (by decide) (by decide) he hpl) fun σ H Q ⟨F, ρ, s, pre, post⟩ =>
    ⟨F, ρ, s, pre, Post.bind post fun d1 s1 F1 x H1 e1 x1 r1 q1 post1 => by
      obtain ⟨z, ez, post2⟩ := ofO_post post1
      obtain ⟨nd, rfl⟩ := ifSome ez
      refine ⟨Nat.le_of_lt (small_line (n := 2) rfl), fun tp htp => ?_⟩
      have x2 : ExtN X.gc F1 H1 F1 (upd H1 tp (.tup [.ty t1.nm, .ty t2.nm])) := Ext.mine x1.fh htp
      exact ⟨x, tp, _, _, _, _, rfl, upd_same, .cons (.ty _) (.cons (.ty _) .nil), dd_ty (q1.ex x2.fh) nd, isi2_kit (q1.ex x2.fh) nd t1 t2, post_end post2 r1 _ _ _ x2 (.bl _)⟩⟩
/-! ### xs[::-1] -/
def revLD : D → Option D
  | .list xs => some (.list xs.reverse)
  | _ => none
theorem DDs.rev {G : GC} {F : Hp} {vs : List V} {ds : List D} (h : DDs G F vs ds) : DDs G F vs.reverse ds.reverse := by
  induction ds generalizing vs with
  | nil => cases h; exact .nil
  | cons d ds ih =>
    cases h with
    | cons h1 h2 => rw [List.reverse_cons, List.reverse_cons]; exact (ih h2).app (.cons h1 .nil)
theorem pd_revL {k : Nat} {p1 p2 p3 : Pos} (h1 : PED X p E a fa) : PED X p E (.Subscript a (.Slice none none (some (.UnaryOp .USub (.Constant (.int 1) k p1) p2)) p3) pos) (eUn revLD fa) :=
  pe_imp (pe_revL h1) fun σ H Q ⟨F, ρ, s, pre, post⟩ => ⟨F, ρ, s, pre, Post.bind post fun d1 s1 F1 x H1 e1 x1 r1 q1 post1 => by
    obtain ⟨z, ez, post2⟩ := ofO_post post1
    cases q1 with
    | @lst b xs ds g1 g2 =>
      cases ez
      exact ⟨b, xs, rfl, ex_l x1.fh g1, newL x1.fh (post_end post2 r1) g2.rev⟩
    | _ => simp [revLD] at ez⟩
/-! ### a list of one's own out of another -/
def iOwnL (f : EM) (r : IM) : IM := fun ρ s => (f ρ s).bind fun z => match itemsOf z.1 with
  | some xs => (r ρ z.2).bind fun y => .ok (.own (.lst xs) :: y.1, y.2)
  | none => .un
theorem pai_lst {r : IM} (hm : X.mg "list" = none) (h1 : PED X p E e f) (h2 : PA X es (tAI X.gc p E r)) (hg : Gl X "list" := by rfl) (hs : starEach (.Call (.Name "list" q) [e] [] pos :: es) X.env = (false, eval (.Call (.Name "list" q) [e] [] pos) X.env) :: starEach es X.env := by rfl)
    (he : starEach [e] X.env = (false, eval e X.env) :: starEach [] X.env := by rfl) (hpl : (backTo pos (starEach [] X.env)).any (·.1) = false := by rfl) :
    PA X (.Call (.Name "list" q) [e] [] pos :: es) (tAI X.gc p E (iOwnL f r)) :=
  pa_imp (pa_cons (pe_callTy call_list_of hg hm (by decide +kernel) (pa_cons h1 pa_nil he) (by decide) (by decide) he hpl) h2 hs) fun σ H Q ⟨F, ρ, s, pre, post⟩ => ⟨F, ρ, s, pre, Post.bind post fun d1 s1 F1 x H1 e1 x1 r1 q1 post1 => by
    cases hi : itemsOf d1 with
    | none => simp only [hi] at post1; exact post1.elim
    | some xs =>
      simp only [hi] at post1
      obtain ⟨a, vs, rfl, hsq, hv⟩ : ∃ a vs, x = .ref a ∧ (SqL X.K H1 a vs ∨ SqT X.K H1 a vs) ∧ DDs X.gc F1 vs xs := by
        cases q1 with
        | lst g1 g2 => cases hi; exact ⟨_, _, rfl, .inl (ex_l x1.fh g1), g2⟩
        | tup g1 g2 => cases hi; exact ⟨_, _, rfl, .inr (ex_t x1.fh g1), g2⟩
        | _ => simp [itemsOf] at hi
      refine ⟨a, vs, rfl, hsq, fun l hl => ?_⟩
      have x2 : Ext X.gc p F1 H1 F1 (upd H1 l (.lst vs)) := Ext.mine x1.fh hl
      have r2 : SRel X.gc p F1 (upd H1 l (.lst vs)) s1 := r1.ext (Ext.mine x1.fh hl)
      have hF : F1 l = none := by
        cases z : F1 l with
        | none => rfl
        | some u => rw [x1.fh l u z] at hl; cases hl
      have nq : some (PQ.sp l) ≠ p := r1.ne hl
      have hd : ∀ b, H1 b = none → H b = none := fun b hb => by
        cases z : H b with
        | none => rfl
        | some o => exact absurd hb (x1.dom b (by rw [z]; simp))
      have post' : Post X.gc p E F1 (upd H1 l (.lst vs)) ((r ρ s1).bind fun y => .ok (.own (.lst xs) :: y.1, y.2)) (fun F' H' vs is => ItsOk X.gc F' H' H vs is) Q := by
        have post0 : Post X.gc p E F1 H1 ((r ρ s1).bind fun y => .ok (.own (.lst xs) :: y.1, y.2)) (fun F' H' vs is => ItsOk X.gc F' H' H vs is) Q := post1
        cases hr : ((r ρ s1).bind fun y => (.ok (.own (.lst xs) :: y.1, y.2) : R (List Itm × List D))) with
        | un => rw [hr] at post0; exact post0
        | ex e => rw [hr] at post0; exact fun F' H' x' => post0 F' H' (x2.trans x')
        | ok w => rw [hr] at post0; exact fun F' v H' x' => post0 F' v H' (x2.trans x')
      refine ⟨F1, ρ, s1, (pre.next x1 r1).next x2 r2, Post.bind post' fun d2 s2 F2 us H2 e2 x3 r3 q3 post2 => Post.okI (show Post X.gc p E F2 H2 (.ok (.own (.lst xs) :: d2, s2)) _ Q from post2) x3.fh r3 ?_⟩
      have g1 : (upd H1 l (.lst vs)) l = some (.lst vs) := upd_same
      refine .own ((x3.own l (by rw [g1]; simp)).trans hF) (hd l hl) ⟨vs, x3.st l _ nq g1 nT_lst, hv.ex x3.ff⟩ (ItsOk.mono (fun b hb => ?_) q3)
      by_cases z : b = l
      · rw [z, g1] at hb; cases hb
      · rw [upd_ne z] at hb ⊢; exact hd b hb⟩
end
/-! ### expressions by the slots, lists of one's own among them -/
abbrev EL := List L → List D → R (D × List D)
abbrev AL := List L → List D → R (List D × List D)
structure PreL (X : Cx) (p : Option PQ) (H0 F H : Hp) (σ : L2.St) (ρ : List L) (s : List D) : Prop where
  ex : Ex F H
  sr : SRel X.gc p F H s
  rl : RelL X.gc F H H0 σ ρ
  hp : ∀ a, p = some (.sp a) → H0 a ≠ none
def tDL (X : Cx) (p : Option PQ) (E : XK) (H0 : Hp) (f : EL) : TE := fun σ H Q => ∃ F ρ s, PreL X p H0 F H σ ρ s ∧ Post X.gc p E F H (f ρ s) (fun F' _ v d => DD X.gc F' v d) Q
def tDLA (X : Cx) (p : Option PQ) (E : XK) (H0 : Hp) (f : AL) : TA := fun σ H Q => ∃ F ρ s, PreL X p H0 F H σ ρ s ∧ Post X.gc p E F H (f ρ s) (fun F' _ v d => DDs X.gc F' v d) Q
section
variable {X : Cx} {p : Option PQ} {E : XK} {H0 F H F' H' : Hp} {σ : L2.St} {ρ : List L} {s s' : List D} {pos : Pos}
theorem PreL.pre (h : PreL X p H0 F H σ ρ s) : Pre X.gc p F H σ (vw ρ) s := ⟨h.ex, h.sr, vw_rel h.rl⟩
theorem PreL.next (h : PreL X p H0 F H σ ρ s) (e : Ext X.gc p F H F' H') (r : SRel X.gc p F' H' s') : PreL X p H0 F' H' σ ρ s' :=
  ⟨e.fh, r, h.rl.mono e.ff fun i a ha => by
    obtain ⟨c, _, _, q2, q3, q4⟩ := h.rl.owned ha
    obtain ⟨o, ho⟩ := q4.there
    exact ⟨(e.own a (by rw [ho]; simp)).trans q2, fun o' h' w => e.st a o' (fun z => h.hp a z.symm q3) h' w⟩, h.hp⟩
theorem pdl_up {e : Expr} {f : EM} (h : PED X p E e f) : PE X e (tDL X p E H0 fun ρ s => f (vw ρ) s) := pe_imp h fun σ H Q ⟨F, ρ, s, pre, post⟩ => ⟨F, vw ρ, s, pre.pre, post⟩
def eIxO (i : Nat) (k : EM) : EL := fun ρ s => match ρ[i]? with
  | some (.own (.lst xs)) => (k (vw ρ) s).bind fun z => match isI z.1 with
    | some j => ofO (atI xs j) z.2
    | none => .un
  | _ => .un
theorem pdl_ix {x k : Expr} {i : Nat} {fk : EM} (hx : PE X x (tVar i)) (hk : PED X p E k fk) (hs : PlainIx k := by exact fun _ _ => rfl) : PE X (.Subscript x k pos) (tDL X p E H0 (eIxO i fk)) :=
  pe_imp (pe_ix ix_seq hx hk hs) fun σ H Q ⟨F, ρ, s, pre, post⟩ => by
    unfold eIxO at post
    cases hi : ρ[i]? with
    | none => simp only [hi] at post; exact post.elim
    | some l =>
      simp only [hi] at post
      cases l with
      | un => exact post.elim
      | d _ => exact post.elim
      | own c =>
        cases c with
        | dct _ => exact post.elim
        | lst xs =>
          obtain ⟨a, g1, g2, g3, vs, g4, g5⟩ := pre.rl.at_ i _ hi
          refine ⟨.ref a, g1, F, vw ρ, s, pre.pre, Post.bind post fun d1 s1 F1 y H1 e1 x1 r1 q1 post1 => ?_⟩
          cases hd : isI d1 with
          | none => simp only [hd] at post1; exact post1.elim
          | some j =>
            simp only [hd] at post1
            have ed := isI_some hd
            subst ed
            obtain ⟨z, ez, post2⟩ := ofO_post post1
            obtain ⟨w, h3, h4⟩ := (g5.ex x1.ff).atI ez
            have g4' : H1 a = some (.lst vs) := x1.st a _ (fun z => pre.hp a z.symm g3) g4 nT_lst
            exact .inl ⟨a, vs, j, w, rfl, q1.inv_int, SqL.of g4', h3, Post.okI post2 x1.fh r1 h4⟩
def eIfL (c : TM) (a b : EL) : EL := fun ρ s => (c (vw ρ) s).bind fun z => if z.1 = true then a ρ z.2 else b ρ z.2
theorem pdl_if {c a b : Expr} {g : TM} {fa fb : EL} (h1 : PTD X p E c g) (h2 : PE X a (tDL X p E H0 fa)) (h3 : PE X b (tDL X p E H0 fb)) : PE X (.IfExp c a b pos) (tDL X p E H0 (eIfL g fa fb)) :=
  pe_imp (pe_ifExp h1 h2 h3) fun σ H Q ⟨F, ρ, s, pre, post⟩ => ⟨F, vw ρ, s, pre.pre, Post.bind post fun d1 s1 F1 x H1 e1 x1 r1 q1 post1 => by
    have q1' : x = d1 := q1
    subst q1'
    cases x with
    | true => exact iteT ⟨F1, ρ, s1, pre.next x1 r1, post1⟩
    | false => exact iteF ⟨F1, ρ, s1, pre.next x1 r1, post1⟩⟩
def aNilL : AL := fun _ s => .ok ([], s)
def aConsL (a : EL) (r : AL) : AL := fun ρ s => (a ρ s).bind fun z => (r ρ z.2).bind fun y => .ok (z.1 :: y.1, y.2)
theorem padl_nil : PA X [] (tDLA X p E H0 aNilL) :=
  pa_imp pa_nil fun σ H Q ⟨F, ρ, s, pre, post⟩ => Post.okI (show Post X.gc p E F H (.ok (([] : List D), s)) _ Q from post) pre.ex pre.sr .nil
theorem padl_cons {e : Expr} {es : List Expr} {f : EL} {r : AL} (h1 : PE X e (tDL X p E H0 f)) (h2 : PA X es (tDLA X p E H0 r)) (hs : starEach (e :: es) X.env = (false, eval e X.env) :: starEach es X.env := by rfl) : PA X (e :: es) (tDLA X p E H0 (aConsL f r)) :=
  pa_imp (pa_cons h1 h2 hs) fun σ H Q ⟨F, ρ, s, pre, post⟩ => ⟨F, ρ, s, pre, Post.bind post fun d1 s1 F1 x H1 e1 x1 r1 q1 post1 =>
    ⟨F1, ρ, s1, pre.next x1 r1, Post.bind post1 fun d2 s2 F2 xs H2 e2 x2 r2 q2 post2 => Post.okI (show Post X.gc p E F2 H2 (.ok (d1 :: d2, s2)) _ Q from post2) x2.fh r2 (.cons (q1.ex x2.ff) q2)⟩⟩
def eCallSL (a : Addr) (m : MS) (n : Nat) (h : AL) : EL := fun ρ s => (h ρ s).bind fun z => match z.1 with
  | d :: ds => if isSp a d && decide (ds.length + 1 = n) then m a (d :: ds) z.2 else .un
  | [] => .un
theorem pdl_callS {x : Str} {q : Pos} {e : Expr} {es : List Expr} {a : Addr} {j k n : Nat} {m : MS} {h : AL} (Fn : FnS X.gc k x n m) (hr : Room j X.A) (hk : k ≤ j) (hx : Passes (L2N.CX X.prog X.w) X E) (h1 : PA X (e :: es) (tDLA X (some (.sp a)) E H0 h))
    (hg : Gl X x := by rfl) (hdb : (x == ("__debug__" : Str)) = false := by decide) (he : starEach (e :: es) X.env = (false, eval e X.env) :: starEach es X.env := by rfl) (hpl : (backTo pos (starEach es X.env)).any (·.1) = false := by rfl) : PE X (.Call (.Name x q) (e :: es) [] pos) (tDL X (some (.sp a)) E H0 (eCallSL a m n h)) := by
  obtain ⟨fd, ps, FO, hb⟩ := Fn.ex
  refine pe_imp (pe_call FO (hr.mono hk) hg Fn.gl Fn.kp hb .nil hx h1 hdb he hpl) fun σ H Q ⟨F, ρ, s, pre, post⟩ => ?_
  refine ⟨F, ρ, s, pre, Post.bind post fun d1 s1 F1 xs H1 e1 x1 r1 q1 post1 => ?_⟩
  cases d1 with
  | nil => exact post1.elim
  | cons d ds =>
    cases hq : (isSp a d && decide (ds.length + 1 = n)) with
    | false => simp only [hq] at post1; exact post1.elim
    | true =>
      simp only [hq, if_true] at post1
      obtain ⟨hq1, hq2⟩ := band hq
      cases q1 with
      | cons h1 h2 =>
        obtain ⟨rfl, rfl⟩ := isSp_opq h1 hq1
        refine ⟨a, F1, s1, ds, x1.fh, r1, ?_, ?_, post1⟩
        · rw [List.append_nil, List.length_cons, h2.len]
          exact of_decide_eq_true hq2
        · rw [List.append_nil]
          exact .cons h1 h2
/-- xs[k] = e, xs one's own, k a name -/
def gSetO (i j : Nat) (f : EL) : SM := fun ρ s => exprS (f ρ s) fun d s' => match ρ[i]?, ρ[j]? with
  | some (.own (.lst xs)), some (.d y) => (match isI y with
    | some k => (match ixN xs.length k with
      | some n => .nx (ρ.set i (.own (.lst (xs.set n d)))) s'
      | none => .un)
    | none => .un)
  | _, _ => .un
theorem psd_setO {F0 : Hp} {x k e : Expr} {f : EL} {i j : Nat} {p3 : Pos} (hp : ∀ a, p = some (.sp a) → H0 a ≠ none) (hx : PE X x (tVar i)) (hk : PE X k (tVar j)) (h : PE X e (tDL X p E H0 f))
    (hs : swapsWithSole [.Subscript x k p3] e pos.line X.env = pure false := by rfl) (hw : swappedStores [.Subscript x k p3] e X.env = pure none := by rfl)
    (h1 : (assignEach [.Subscript x k p3] X.env).map (·.2) = [assign (.Subscript x k p3) X.env] := by rfl)
    (ha : ∀ v, assign (.Subscript x k p3) X.env v = (do
      let ov ← holding [v] (eval x X.env)
      let iv ← holding [v, ov] (eval k X.env)
      standAt p3
      holding [v, ov, iv] (setItem ov iv v)
      release [v, ov, iv] []) := by intro _; rfl) :
    PSD X p E F0 H0 (.Assign [.Subscript x k p3] e pos) (gSetO i j f) :=
  ps_imp (ps_asg h (pg_sub hx hk set_list ha) hs hw h1) fun D σ H ⟨F, ρ, s, st, q⟩ => by
    have pre : PreL X p H0 F H σ ρ s := ⟨st.ext.fh, st.sr, st.rl, hp⟩
    refine ⟨F, ρ, s, pre, ?_⟩
    unfold gSetO at q
    cases hf : f ρ s with
    | un => rw [hf] at q; exact q
    | ex e =>
      rw [hf] at q
      have q' : ∀ F1 H, Ex F F1 → Ext X.gc p F0 H0 F1 H → ExW X.gc E e F1 H := q
      exact fun F' H' x => q' F' H' x.ff (st.ext.trans x)
    | ok z =>
      rw [hf] at q
      intro F2 v H2 x r hv
      obtain ⟨d, s'⟩ := z
      have pre2 := pre.next x r
      simp only [exprS_ok] at q
      cases hi : ρ[i]? with
      | none => simp only [hi] at q; exact q.elim
      | some l =>
        cases hj : ρ[j]? with
        | none => simp only [hi, hj] at q; exact q.elim
        | some l2 =>
          simp only [hi, hj] at q
          cases l with
          | un => exact q.elim
          | d _ => exact q.elim
          | own c =>
            cases c with
            | dct _ => exact q.elim
            | lst xs =>
              cases l2 with
              | un => exact q.elim
              | own _ => exact q.elim
              | d y =>
                simp only at q
                cases hy : isI y with
                | none => rw [hy] at q; exact q.elim
                | some kk =>
                  rw [hy] at q
                  have ey := isI_some hy
                  subst ey
                  simp only at q
                  cases hn : ixN xs.length kk with
                  | none => rw [hn] at q; exact q.elim
                  | some n =>
                    rw [hn] at q
                    obtain ⟨a, g1, g2, g3, vs, g4, g5⟩ := pre2.rl.at_ i _ hi
                    obtain ⟨w, k1, k2⟩ := pre2.rl.at_ j _ hj
                    have o3 : oad σ[i]? ρ[i]? = some a := by rw [hi, g1]; rfl
                    refine ⟨_, g1, w, k1, a, vs, kk, n, rfl, k2.inv_int, g4, by rw [g5.len]; exact hn, ?_⟩
                    refine q F2 σ _ x.ff ⟨⟨(st.ext.trans x).ff, fun b o hb => ?_, (st.ext.trans x).own, fun b o nn hb ww => ?_, fun b hb => ?_, fun t => ((st.ext.trans x).tb t).put (.lst g4)⟩, ?_, pre2.rl.putO o3 ⟨_, upd_same, g5.set n hv⟩⟩
                    · rw [upd_ne (ne_of_none hb g2)]; exact x.fh b o hb
                    · rw [upd_ne (ne_of_none hb g3)]; exact (st.ext.trans x).st b o nn hb ww
                    · by_cases z : b = a
                      · rw [z, upd_same]; simp
                      · rw [upd_ne z]; exact (st.ext.trans x).dom b hb
                    · exact r.put (fun z => hp a z.symm g3) (.lst g4)
end
end DL
end

section
set_option Elab.async false
set_option linter.all false
set_option maxRecDepth 100000
set_option maxHeartbeats 4000000
/-! The data layer, part 37: t[::-1] of a tuple. -/
namespace DL
open PySem PySem.Spec PyProof.Rows L2
section
variable {prog : Program} {w : World} {A : Around} {E : Value → Shared → Prop} {s : Shared}
theorem places_rev (n : Nat) : Builtin.Slice.slicePlaces ((n : Int) - 1) (-1) (-1) = n := by
  unfold Builtin.Slice.slicePlaces
  have h1 : ¬ ((-1 : Int) > 0) := by omega
  rw [if_neg h1]
  by_cases h : (n : Int) - 1 > -1
  · rw [if_pos h]
    have e : ((n : Int) - 1 - -1 - 1) / (- -1) = (n : Int) - 1 := by
      rw [show (- -1 : Int) = 1 from rfl, Int.ediv_one]; omega
    rw [e]; omega
  · rw [if_neg h]; omega
theorem sliceApplied_rev {sl : Addr} {n : Nat} {t : Tok} {Q : Int × Int × Nat → Shared → Prop} (hs : s.heap.IsSliceOf sl .none .none (.int (-1) t)) (h : Q ((n : Int) - 1, -1, n) s) : wpAny (model prog w) A (Builtin.Slice.sliceApplied (.ref sl) (pure (n : Int))) Q E s := by
  obtain ⟨os, hos, hcs, hds⟩ := id hs
  unfold Builtin.Slice.sliceApplied Builtin.Slice.sliceFields
  refine wpAny_bind (wpAny_bind (wpAny_field hos hds (x := .none) rfl (wpAny_bind (wpAny_field hos hds (x := .none) rfl (wpAny_bind (wpAny_field hos hds (x := .int (-1) t) rfl (wpAny_pure ?_)))))))
  refine wpAny_bind (slicePart_int ?_)
  show wpAny _ _ (if ((-1 : Int) == 0) = true then _ else _) _ _ s
  rw [if_neg (by decide)]
  refine wpAny_bind (slicePart_none (wpAny_bind (slicePart_none (wpAny_bind (wpAny_pure ?_)))))
  show wpAny _ _ (pure ((n : Int) - 1, (-1 : Int), Builtin.Slice.slicePlaces ((n : Int) - 1) (-1) (-1))) _ _ s
  rw [places_rev]
  exact wpAny_pure h
theorem fm_congr {α β : Type} {f g : α → Option β} : ∀ {l : List α}, (∀ x ∈ l, f x = g x) → l.filterMap f = l.filterMap g
  | [], _ => rfl
  | a :: l, h => by
    rw [List.filterMap_cons, List.filterMap_cons, h a List.mem_cons_self, fm_congr fun x hx => h x (List.mem_cons_of_mem _ hx)]
theorem pick_rev (xs : Array Value) : ((List.range xs.size).filterMap fun (k : Nat) => xs[((xs.size : Int) - 1 + (k : Int) * (-1)).toNat]?).toArray = xs.toList.reverse.toArray := by
  have g := HT.pick_gen xs.toList.reverse.toArray 0 xs.size
  rw [List.drop_zero] at g
  have e : List.take xs.size xs.toList.reverse.toArray.toList = xs.toList.reverse := by
    show List.take xs.size xs.toList.reverse = _
    exact List.take_of_length_le (by rw [List.length_reverse, Array.length_toList]; exact Nat.le_refl _)
  rw [e] at g
  rw [← g]
  congr 1
  refine fm_congr fun k hk => ?_
  have hk := List.mem_range.mp hk
  have e1 : ((xs.size : Int) - 1 + (k : Int) * (-1)).toNat = xs.size - 1 - k := by omega
  have e2 : (((0 : Nat) : Int) + (k : Int) * 1).toNat = k := by omega
  rw [e1, e2]
  show _ = xs.toList.reverse.toArray[k]?
  have e3 : xs.toList.reverse.toArray[k]? = xs.toList.reverse[k]? := by simp
  rw [e3, List.getElem?_reverse (by rw [Array.length_toList]; exact hk), Array.length_toList, Array.getElem?_toList]
theorem getItem_tuple_rev {t sl : Addr} {items : Array Value} {tk : Tok} {Q : Value → Shared → Prop} (ht : IsTup s.heap t items) (hs : s.heap.IsSliceOf sl .none .none (.int (-1) tk))
    (h : Q (.ref s.heap.objs.size) { s with heap := s.heap.push { cls := .type "tuple", data := .seq items.toList.reverse.toArray } })
    (hsz : items.size ≤ sizeLine) : wpAny (model prog w) A (getItem (.ref t) (.ref sl)) Q E s := by
  have htake : sizeOk (.seq items.toList.reverse.toArray) := by
    show items.toList.reverse.toArray.size ≤ sizeLine
    rw [List.size_toArray, List.length_reverse, Array.length_toList]
    exact hsz
  obtain ⟨os, hos, hcs, hds⟩ := id hs
  have hTs : s.TypeIs (.ref sl) "slice" := ⟨os, hos, hcs⟩
  unfold getItem
  try with_reducible refine wpAny_holding ?_
  first | refine wpAny_bind (wpAny_pure ?_) | skip
  refine wpAny_bind (wpAny_sequenceKey ht.typeIs (by decide) ?_)
  refine wpAny_bind (wpAny_callSpecial?_slot (name := Str.ofString "__getitem__") ht.typeIs PyProof.Rows.slot_tuple_getitem
    (wpAny_call_entry PyProof.Rows.slot_tuple_getitem ht.typeIs entry_tuple_getitem ?_ (args_tuple_getitem _ _)))
  show wpAny _ _ (Builtin.Tuple.tupleItemsOf (.ref t) >>= _) _ _ s
  refine wpAny_bind (tupleItemsOf_ ht ?_)
  refine wpAny_bind (wpAny_typeOf hTs ?_)
  rw [if_pos (by decide)]
  refine wpAny_bind (sliceApplied_rev hs ?_)
  have hno : ¬ ((((items.size : Int) - 1) == 0 && (-1 : Int) == 1 && items.size == items.size) = true) := by
    intro q
    rw [Bool.and_eq_true, Bool.and_eq_true] at q
    exact absurd q.1.2 (by decide)
  show wpAny _ _ (if (((items.size : Int) - 1) == 0 && (-1 : Int) == 1 && items.size == items.size) = true then _ else _) _ _ s
  rw [if_neg hno, pick_rev]
  first
    | exact wpAny_bind (m := Builtin.Tuple.tupleExact _) (wpAny_newObj_type (wpAny_pure ⟨_, rfl, wpAny_pure h⟩) htake)
    | exact wpAny_bind (m := Builtin.Tuple.tupleExact _) (wpAny_newObj_type (wpAny_bind (wpAny_pure (wpAny_pure ⟨_, rfl, wpAny_pure h⟩))) htake)
    | exact wpAny_bind (wpAny_bind (m := Builtin.Tuple.tupleExact _) (wpAny_newObj_type (wpAny_pure (wpAny_pure ⟨_, rfl, wpAny_pure h⟩)) htake))
    | exact wpAny_bind (wpAny_bind (m := Builtin.Tuple.tupleExact _) (wpAny_newObj_type (wpAny_pure ⟨_, rfl, wpAny_pure h⟩) htake))
end
section
variable {X : Cx} {p : Option PQ} {E : XK} {a : Expr} {fa : EM} {pos : Pos}
def tRevT (K : PySem.W.Frag) (te : TE) : TE := fun σ H Q => te σ H fun x H1 => ∃ a xs, x = .ref a ∧ SqT K H1 a xs ∧ ∀ p, H1 p = none → Q (.ref p) (upd H1 p (.tup xs.reverse))
theorem pe_revT {e : Expr} {te : TE} {k : Nat} {p1 p2 p3 pos : Pos} (he : PE X e te) : PE X (.Subscript e (.Slice none none (some (.UnaryOp .USub (.Constant (.int 1) k p1) p2)) p3) pos) (tRevT X.K te) := by
  refine ⟨fun pins s σ H Q I h => ?_⟩
  refine Subscript_ (thn (he.run pins s σ H _ I h) fun v s1 ⟨x, H1, I1, r1, q1⟩ => ?_)
  obtain ⟨a, xs, ex, hx, q⟩ := q1
  subst ex
  cases r1
  have hst : PO X (some (.UnaryOp .USub (.Constant (.int 1) k p1) p2)) (tPart (tUn (rU fun i => .int (-i)) (tC (.int 1)))) := po_some (pe_un un_neg pe_int)
  refine wpAny_Slice (thn (po_none.run pins s1 σ H1 (fun o H2 => o = none ∧ H2 = H1) I1 ⟨rfl, rfl⟩) fun vl s2 ⟨l, H2, I2, pl, el, e2⟩ => ?_)
  subst el e2
  refine thn (po_none.run pins s2 σ H2 (fun o H3 => o = none ∧ H3 = H2) I2 ⟨rfl, rfl⟩) fun vu s3 ⟨u, H3, I3, pu, eu, e3⟩ => ?_
  subst eu e3
  refine thn (hst.run pins s3 σ H3 (fun o H4 => o = some (-1) ∧ H4 = H3) I3 ⟨1, rfl, -1, rfl, rfl, rfl⟩) fun vs s4 ⟨o, H4, I4, ps, eo, e4⟩ => ?_
  subst eo e4
  cases pl
  cases pu
  obtain ⟨tk, rfl⟩ : ∃ tk, vs = Value.int (-1) tk := by
    cases ps with
    | int i t => exact ⟨t, rfl⟩
  have I5 : L2.Inv X pins σ H4 { s4 with heap := s4.heap.push { cls := .type "slice", data := .fields #[.none, .none, .int (-1) tk] } } := I4.kept (t' := s4.toks) fun b ob q => Heap.get?_push_of_some _ q
  obtain ⟨its, r, ht, hz⟩ := I5.tuple hx
  have hlen := r.length
  show wpAny (model X.prog X.w) X.A (subscriptTail e (.Slice none none (some (.UnaryOp .USub (.Constant (.int 1) k p1) p2)) p3) (.ref a) (.ref s4.heap.objs.size)) (EP X pins σ Q) X.xe { s4 with heap := s4.heap.push { cls := .type "slice", data := .fields #[.none, .none, .int (-1) tk] } }
  refine tail_any (ops := [.ref a, .ref s4.heap.objs.size]) ht.typeIs (PyProof.Rows.slot_tuple_getitem.lookup) ?_ (by with_unfolding_all rfl)
  refine getItem_tuple_rev ht (Heap.IsSliceOf.new _ .none .none (.int (-1) tk)) ?_ (by rw [List.size_toArray]; omega)
  refine ⟨.ref _, _, I5.laid (t' := s4.toks) (o := .tup xs.reverse) (fun b ob q => Heap.get?_push_of_some _ q) (Nat.le_refl _) ?_, rfl, q _ (I5.hok.fresh (Nat.le_refl _))⟩
  exact ⟨by rw [List.length_reverse]; exact hz, _, r.reverse, IsTup.new _ _⟩
def revTD : D → Option D
  | .tuple xs => some (.tuple xs.reverse)
  | _ => none
theorem pd_revT {k : Nat} {p1 p2 p3 : Pos} (h1 : PED X p E a fa) : PED X p E (.Subscript a (.Slice none none (some (.UnaryOp .USub (.Constant (.int 1) k p1) p2)) p3) pos) (eUn revTD fa) :=
  pe_imp (pe_revT h1) fun σ H Q ⟨F, ρ, s, pre, post⟩ => ⟨F, ρ, s, pre, Post.bind post fun d1 s1 F1 x H1 e1 x1 r1 q1 post1 => by
    obtain ⟨z, ez, post2⟩ := ofO_post post1
    cases q1 with
    | @tup b xs ds g1 g2 =>
      cases ez
      exact ⟨b, xs, rfl, ex_t x1.fh g1, newT x1.fh (post_end post2 r1) g2.rev⟩
    | _ => simp [revTD] at ez⟩
end
end DL
end

section
set_option Elab.async false
set_option linter.all false
set_option maxRecDepth 100000
set_option maxHeartbeats 4000000
/-! The data layer, part 38: C(e, ..) that is refused by its __init__. -/
namespace DL
open PySem PySem.Spec PyProof.Rows L2
/-- the j-th statement of a class -/
def clsAt (st : Stmt) (j : Nat) : Stmt := match st with
  | .ClassDef _ _ _ body _ _ _ _ _ _ _ => body.getD j (.Pass ⟨0, 0, 0, 0⟩)
  | _ => .Pass ⟨0, 0, 0, 0⟩
/-- a method as the head tells it -/
structure MetF (G : GC) (C m q : Str) (st : Stmt) : Prop where
  ex : ∃ fd, FunD G.K m q (defArgs st) (defBody st) (defScope st) [] [] (He.fAd G.K (C, some m)) fd
/-- a class with an __init__ as the head tells it -/
structure MkF (G : GC) (C : Str) : Prop where
  mkr : Mk G.K (He.ga G.K C) (He.fAd G.K (C, some "__init__"))
  gl : G.mg C = some (.ref (He.ga G.K C))
/-- the promise of an __init__ that refuses -/
def spR (G : GC) (n : Nat) (m : List D → R D) : Sp := fun vs H Q E => ∃ F a us ds, vs = .ref a :: us ∧ Ex F H ∧ TbF G F H ∧ us.length = n ∧ DDs G F us ds ∧ match m ds with
  | .ex e => ∀ F' H', Ext G none F H F' H' → ExW G E e F' H'
  | _ => False
/-- the mirror of an __init__: the new thing itself is not looked at -/
def runR (g : SM) (n : Nat) (ds : List D) : R D := match g (L.un :: (ds.map L.d ++ List.replicate (n - (ds.length + 1)) L.un)) [] with
  | .ex e => .ex e
  | _ => .un
structure FnR2 (G : GC) (k : Nat) (C : Str) (n : Nat) (m : List D → R D) : Prop where
  ex : ∃ fd ps, FnOk G.P G.w G.K G.mg G.base (L2N.CX G.P G.w) k (He.fAd G.K (C, some "__init__")) fd ps (spR G n m) ∧ Binds G.K fd ps []
  mkf : MkF G C
theorem def_okR {G : GC} {C q : Str} {st : Stmt} {N ps : List Str} {k n : Nat} {g : SM} (F : MetF G C "__init__" q st) (M : MkF G C) (S : FnScope N ps (defScope st)) (hn : ps.length = n + 1)
    (hb : ∀ (kV doc pm : Value) (an : Option Addr) (cdv ct : Value) (us : List Value), us.length = ps.length → bindArgs (PySem.W.fnOf "__init__" q (defArgs st) (defBody st) (defScope st) .none kV doc pm an cdv ct) ⟨us, []⟩ = pure (ps.zip us))
    (der : ∀ (cdv : Value) (A : Around) (outer : List PySem.Env) (s : Shared) (H F0 : Hp) (E : XK), Room k (A.deeper (envOfC q (defScope st) s.heap.objs.size (He.fAd G.K (C, some "__init__")) cdv)) →
      Passes (L2N.CX G.P G.w) (cxOf (L2N.CX G.P G.w) G.P G.w G.K G.mg G.base N q (defScope st) (He.fAd G.K (C, some "__init__")) cdv A outer s H E) E →
      PassesOwn (model G.P G.w) (A.deeper (envOfC q (defScope st) s.heap.objs.size (He.fAd G.K (C, some "__init__")) cdv)) (envOfC q (defScope st) s.heap.objs.size (He.fAd G.K (C, some "__init__")) cdv) (cxOf (L2N.CX G.P G.w) G.P G.w G.K G.mg G.base N q (defScope st) (He.fAd G.K (C, some "__init__")) cdv A outer s H E).xe →
      PSsD (cxOf (L2N.CX G.P G.w) G.P G.w G.K G.mg G.base N q (defScope st) (He.fAd G.K (C, some "__init__")) cdv A outer s H E) none E F0 H (defBody st) g) :
    FnR2 G (k + 1) C n (runR g N.length) := by
  obtain ⟨fd, FD⟩ := F.ex
  refine ⟨⟨fd, ps, FD.ok S (fun vs H Q E h => ?_) (fun cdv A outer s H vs Q E hr h => ?_), FD.bindsN hb⟩, M⟩
  · obtain ⟨F0, a, us, ds, rfl, h1, ht, h2, h3, h4⟩ := h
    rw [List.length_cons, h2, hn]
  · obtain ⟨F0, a, us, ds, rfl, h1, ht, h2, h3, h4⟩ := h
    have st0 : RelL G F0 H H (L2.start N (.ref a :: us)) ((opq a :: ds).map L.d ++ List.replicate (N.length - (opq a :: ds).length) L.un) := startL (.cons (.opq a) h3) N
    have st1 : RelL G F0 H H (L2.start N (.ref a :: us)) (L.un :: (ds.map L.d ++ List.replicate (N.length - (ds.length + 1)) L.un)) := by
      refine Bl.rel ⟨by simp, fun i l hl => ?_⟩ st0
      cases i with
      | zero => exact .inl (by simpa using hl.symm)
      | succ i =>
        rw [List.getElem?_cons_succ] at hl
        by_cases hi : i < ds.length
        · rw [List.getElem?_append_left (by simpa using hi), List.getElem?_map] at hl
          cases e : ds[i]? with
          | none => rw [e] at hl; cases hl
          | some d =>
            rw [e] at hl
            refine .inr ⟨d, (Option.some.inj hl).symm, ?_⟩
            rw [List.map_cons, List.cons_append, List.getElem?_cons_succ, List.getElem?_append_left (by simpa using hi), List.getElem?_map, e]
            rfl
        · rw [List.getElem?_append_right (by simpa using hi)] at hl
          exact .inl (List.mem_replicate.mp (List.mem_of_getElem? hl)).2
    refine ⟨_, der cdv A outer s H F0 E hr (L2N.passes_call (L2N.takes_of (E := E) rfl rfl rfl rfl) fun _ _ _ _ h => h) (passes_of rfl), F0, L.un :: (ds.map L.d ++ List.replicate (N.length - (ds.length + 1)) L.un), [], ⟨Ext.refl h1, ⟨ht, rfl⟩, st1⟩, ?_⟩
    unfold runR at h4
    show PostS _ none E F0 H F0 (g (L.un :: (ds.map L.d ++ List.replicate (N.length - (ds.length + 1)) L.un)) []) _
    cases hg : g (L.un :: (ds.map L.d ++ List.replicate (N.length - (ds.length + 1)) L.un)) [] with
    | ex e => rw [hg] at h4; exact fun F H' _ x => h4 F H' x
    | nx ρ s' => rw [hg] at h4; exact h4.elim
    | rt d s' => rw [hg] at h4; exact h4.elim
    | bk ρ s' => rw [hg] at h4; exact h4.elim
    | ct ρ s' => rw [hg] at h4; exact h4.elim
    | un => rw [hg] at h4; exact h4.elim
/-- C(e, ..), refused -/
def eMakeR (m : List D → R D) (h : AM) : EM := fun ρ s => (h ρ s).bind fun z => match m z.1 with
  | .ex e => .ex e
  | _ => .un
section
variable {X : Cx} {E : XK} {p : Option PQ} {e : Expr} {es : List Expr} {h : AM} {pos q : Pos}
theorem pd_makeR {C : Str} {j k n : Nat} {m : List D → R D} (Fn : FnR2 X.gc k C n m) (hr : Room j X.A) (hk : k + 1 ≤ j) (hx : Passes (L2N.CX X.prog X.w) X E) (h1 : PAD X p E (e :: es) h) (hl : ∀ ρ s ds s', h ρ s = .ok (ds, s') → ds.length = n)
    (hg : Gl X C := by rfl) (hdb : (C == ("__debug__" : Str)) = false := by decide) (he : starEach (e :: es) X.env = (false, eval e X.env) :: starEach es X.env := by rfl) (hpl : (backTo pos (starEach es X.env)).any (·.1) = false := by rfl) : PED X p E (.Call (.Name C q) (e :: es) [] pos) (eMakeR m h) := by
  obtain ⟨fd, ps, FO, hb⟩ := Fn.ex
  refine pe_imp (pe_make Fn.mkf.mkr FO (hr.mono hk) hg Fn.mkf.gl hb .nil hx h1 hdb he hpl) fun σ H Q ⟨F, ρ, s, pre, post⟩ => ⟨F, ρ, s, pre, Post.bind post fun d1 s1 F1 xs H1 e1 x1 r1 q1 post1 => fun x dx nx ndx ne => ?_⟩
  have y1 : ExtN X.gc F1 H1 F1 (upd H1 dx (.own x)) := Ext.mine x1.fh ndx
  have nx' : (upd H1 dx (.own x)) x = none := by rw [upd_ne (fun z => ne z.symm)]; exact nx
  have y2 : ExtN X.gc F1 (upd H1 dx (.own x)) F1 (upd (upd H1 dx (.own x)) x (.ins (He.ga X.K C) dx [])) := Ext.mine y1.fh nx'
  have y := y1.trans y2
  refine ⟨F1, x, xs ++ [], d1, rfl, y.fh, r1.1.ext y, by rw [List.append_nil, q1.len]; exact hl _ _ _ _ e1, by rw [List.append_nil]; exact q1, ?_⟩
  cases hm : m d1 with
  | ex ee =>
    simp only [hm] at post1
    exact fun F' H' x' => post1 F' H' (y.trans x').weak
  | ok d => simp only [hm] at post1; exact post1.elim
  | un => simp only [hm] at post1; exact post1.elim
end
end DL
end

section
set_option Elab.async false
set_option linter.all false
set_option maxRecDepth 100000
set_option maxHeartbeats 2000000
namespace DL
open PySem PySem.Spec PyProof.Rows L2
/-! ### a Hook whose part of the heap is grown by its rim alone -/
/-- what an object at an address names, itself left out -/
def rimOf (look : Addr → Option Obj) (a : Addr) : List Addr := match look a with
  | some o => (He.refsD o).filter fun b => !Nat.beq a b
  | none => []
def rims (look : Addr → Option Obj) : Nat → List Addr → List Addr
  | 0, rim => rim
  | k + 1, rim => rim ++ rims look k (rim.flatMap (rimOf look))
abbrev partY (look : Addr → Option Obj) (k : Nat) : PySem.W.Frag := He.frT look (rims look k [mainGlobals] ++ [cStatics])
def tabY (look : Addr → Option Obj) (tf : List He.Defn) (K : PySem.W.Frag) : Bool := He.tabsB look tf K
def obsY (k : Nat) (fa : List He.Fa) (fn : List He.DefD) (ts : List He.Tab) (tf : List He.Defn) (ex : PySem.W.Frag → Bool) (look : Addr → Option Obj) : He.AlX :=
  (He.obsT fa fn ts (partY look k), ex (partY look k) && He.tabsB look tf (partY look k))
theorem tabsB_at {look : Addr → Option Obj} {tf : List He.Defn} {K : PySem.W.Frag} (t : He.tabsB look tf K = true) {p : He.Defn} (hp : p ∈ tf) :
    PySem.W.codeHdIn K (He.cT K p).1 (He.cT K p).2 = true ∧ look (He.cT K p).2 = some { cls := .none, data := .fields #[] } := by
  have u := He.ba (List.all_eq_true.mp t p hp)
  refine ⟨u.1, ?_⟩
  have v := u.2
  cases q : look (He.cT K p).2 with
  | none => rw [q] at v; exact absurd v (by decide)
  | some o => rw [q] at v; rw [He.emptyTab_eq v]
theorem says_obsY {k : Nat} {fa : List He.Fa} {fn : List He.DefD} {ts : List He.Tab} {tf : List He.Defn} {ex : PySem.W.Frag → Bool} {w : World} {h : Heap}
    (e : obsY k fa fn ts tf ex h.get? = He.valX fn ts w) : He.SaysX fa fn ts tf ex w h (partY h.get? k) := by
  have a : He.obsT fa fn ts (partY h.get? k) = He.valT fn ts w := (Prod.ext_iff.mp e).1
  have b := He.ba (show (ex (partY h.get? k) && He.tabsB h.get? tf (partY h.get? k)) = true from (Prod.ext_iff.mp e).2)
  refine ⟨a, b.1, fun p hp => (tabsB_at b.2 hp).1, fun p hp => ?_, fun p hp => (tabsB_at b.2 hp).2⟩
  exact He.frT_none (tabsB_at b.2 hp).2 rfl
def hookY (k : Nat) (fa : List He.Fa) (fn : List He.DefD) (ts : List He.Tab) (tf : List He.Defn) (ex : PySem.W.Frag → Bool) : PySem.W.Hook :=
  { α := He.AlX
    obs := fun s => obsY k fa fn ts tf ex s.heap.get?
    val := fun w => He.valX fn ts w
    says := fun w h => ∃ K : PySem.W.Frag, K.In h ∧ He.SaysX fa fn ts tf ex w h K
    of := fun _ _ e => ⟨_, He.frT_in, says_obsY e⟩
    keeps := (He.hookX 0 fa fn ts tf ex).keeps }
theorem obsY_eq {k : Nat} {fa : List He.Fa} {fn : List He.DefD} {ts : List He.Tab} {tf : List He.Defn} {ex : PySem.W.Frag → Bool} {look : Addr → Option Obj} {s : Shared} (h : ∀ a, look a = s.heap.get? a) :
    obsY k fa fn ts tf ex look = (hookY k fa fn ts tf ex).obs s := by
  rw [show look = s.heap.get? from funext h]; rfl
end DL
end

section
set_option Elab.async false
set_option linter.all false
set_option maxRecDepth 100000
set_option maxHeartbeats 4000000
/-! The data layer, part 40: errors with an attribute of their own are raised. -/
namespace DL
open PySem PySem.Spec PyProof.Rows L2
/-- the root of the errors: R.__init__ is ValueError's -/
structure RootF (G : GC) (R : Str) : Prop where
  rd : PySem.W.readsIn G.K (He.ga G.K R) (.type "type") = true
  ga : PySem.W.specialIn G.K (.ref (He.ga G.K R)) "__getattribute__" = some (some (.builtin "type.__getattribute__"))
  vi : PySem.W.findCls G.K (.ref (He.ga G.K R)) (.type "type") "__init__" = some (.val (.builtin "ValueError.__init__"))
  gl : G.mg R = some (.ref (He.ga G.K R))
/-- an error's class with an __init__ of its own and an attribute -/
structure OexF (G : GC) (C f : Str) : Prop where
  ox : OexC G.K (He.ga G.K C)
  ini : PySem.W.findIn G.K (.ref (He.ga G.K C)) "__init__" = some (some (.ref (He.fAd G.K (C, some "__init__"))))
  ti : PySem.W.typeIn G.K (.ref (He.fAd G.K (C, some "__init__"))) = some (.type "function")
  no : PySem.W.findIn G.K (.ref (He.ga G.K C)) f = some none
  gl : G.mg C = some (.ref (He.ga G.K C))
/-! what the head asks -/
def oexB (K : PySem.W.Frag) (C : Addr) : Bool := match K.lookup C with
  | some ⟨.type "type", _, .cls cd, sl⟩ => (match cd.mro, sl.toList with
    | .ref c :: bm, [_, _, _, _, some (.builtin nw), _] => Nat.beq c C && (decide (nw = "ValueError.__new__") && (!cd.hasDel && (cd.hasDict && PySem.HandSPX.refsVE bm)))
    | _, _ => false)
  | _ => false
theorem oexB_ok {K : PySem.W.Frag} {C : Addr} (h : oexB K C = true) : ∃ nm q N bs bm sn sub ab col dd k0 k1 k2 k3 k5, K.lookup C = some (excClassObj nm q C N bs bm true sn sub ab col dd k0 k1 k2 k3 k5 "ValueError.__new__") ∧ PySem.HandSPX.refsVE bm = true := by
  unfold oexB at h
  split at h
  · rename_i dd cd sl e
    split at h
    · rename_i c bm k0 k1 k2 k3 nw k5 hm hs
      obtain ⟨h1, h⟩ := He.ba h
      obtain ⟨h2, h⟩ := He.ba h
      obtain ⟨h3, h⟩ := He.ba h
      obtain ⟨h4, h5⟩ := He.ba h
      have e1 : c = C := Nat.eq_of_beq_eq_true h1
      have e2 := of_decide_eq_true h2
      subst e1 e2
      obtain ⟨nm, bs, mro, ns, qn, hd, sn, sub, ab, col, del⟩ := cd
      obtain ⟨l⟩ := sl
      simp only at hm hs h3 h4
      subst hm hs h4
      have e3 : del = false := by simpa using h3
      subst e3
      exact ⟨nm, qn, ns, bs, bm, sn, sub, ab, col, dd, k0, k1, k2, k3, k5, e, h5⟩
    · cases h
  · cases h
def oexFB (K : PySem.W.Frag) (C f : Str) : Bool :=
  oexB K (He.ga K C) && (decide (PySem.W.findIn K (.ref (He.ga K C)) "__setattr__" = some (some (.builtin "object.__setattr__"))) && (decide (PySem.W.subIn K (.ref (He.ga K C)) (.type "BaseException") = some true) &&
    (decide (PySem.W.typeIn K (.ref (He.ga K C)) = some (.type "type")) && (PySem.W.keepIn K (.ref (He.ga K C)) && (decide (PySem.W.findIn K (.ref (He.ga K C)) "__init__" = some (some (.ref (He.fAd K (C, some "__init__"))))) &&
      (decide (PySem.W.typeIn K (.ref (He.fAd K (C, some "__init__"))) = some (.type "function")) && decide (PySem.W.findIn K (.ref (He.ga K C)) f = some none)))))))
theorem oexF_of {G : GC} {C f : Str} (h : oexFB G.K C f = true) (gl : G.mg C = some (.ref (He.ga G.K C))) : OexF G C f := by
  obtain ⟨h1, h⟩ := He.ba h
  obtain ⟨h2, h⟩ := He.ba h
  obtain ⟨h3, h⟩ := He.ba h
  obtain ⟨h4, h⟩ := He.ba h
  obtain ⟨h5, h⟩ := He.ba h
  obtain ⟨h6, h⟩ := He.ba h
  obtain ⟨h7, h8⟩ := He.ba h
  exact ⟨⟨oexB_ok h1, of_decide_eq_true h2, of_decide_eq_true h3, of_decide_eq_true h4, h5⟩, of_decide_eq_true h6, of_decide_eq_true h7, of_decide_eq_true h8, gl⟩
def rootFB (K : PySem.W.Frag) (R : Str) : Bool :=
  PySem.W.readsIn K (He.ga K R) (.type "type") && (decide (PySem.W.specialIn K (.ref (He.ga K R)) "__getattribute__" = some (some (.builtin "type.__getattribute__"))) && (match PySem.W.findCls K (.ref (He.ga K R)) (.type "type") "__init__" with
    | some (.val v) => decide (v = .builtin "ValueError.__init__")
    | _ => false))
theorem rootF_of {G : GC} {R : Str} (h : rootFB G.K R = true) (gl : G.mg R = some (.ref (He.ga G.K R))) : RootF G R := by
  obtain ⟨h1, h⟩ := He.ba h
  obtain ⟨h2, h3⟩ := He.ba h
  refine ⟨h1, of_decide_eq_true h2, ?_, gl⟩
  split at h3
  · rename_i v e
    rw [e, of_decide_eq_true h3]
  · cases h3
section
variable {X : Cx} {e : Expr} {es : List Expr} {ta : TA} {p1 p2 pos p : Pos} {R : Str}
/-- R.__init__(self, ..) -/
theorem pe_rinit {pl : Sem Bool} (T : RootF X.gc R) (hg : Gl X R) (ha : L2.PA X (e :: es) ta) (hdb : (R == ("__debug__" : Str)) = false)
    (hc : eval (.Call (.Attribute (.Name R p1) "__init__" p2) (e :: es) [] pos) X.env = (do
      let ov ← eval (.Name R p1) X.env
      standAt p2.atName
      let (f, first) ← holding [ov] (getMethod ov "__init__" pl)
      callWith pos f first (backTo pos (starEach (e :: es) X.env)) (backToKw pos (keywordEach [] X.env))) := by rfl)
    (he : starEach (e :: es) X.env = (false, eval e X.env) :: starEach es X.env := by rfl) (hpl : (backTo pos (starEach es X.env)).any (·.1) = false := by rfl) :
    PE X (.Call (.Attribute (.Name R p1) "__init__" p2) (e :: es) [] pos) (tVeI X.K ta) := ⟨fun pins s σ H Q I h => by
  refine PySem.W.methodCall_KW (ld_glob I hg T.gl ?_ hdb) hc
  refine PySem.W.method_cls I.kIn T.ga (PySem.W.cls_value I.kIn T.rd T.vi (by decide +kernel) ?_)
  show wpAny _ _ (callWith pos (Value.builtin "ValueError.__init__") [] _ []) _ _ _
  have I' := I.tok (s.toks + 1)
  refine PyProof.Rows.callWith_method1 (thn (ha.run pos pins _ σ H _ I' h) fun us s1 w => ?_) he hpl
  obtain ⟨vs, H1, I1, rv, a, C, ws, rfl, hl, T1, ea, q⟩ := w
  cases rv with
  | @cons _ u0 _ ur r0 rs =>
    obtain rfl : u0 = Value.ref a := r0
    exact oinit_ok T1 I1 ea (by rw [← Paired.length rs, sizeLine_eq]; omega) fun s' J => ⟨.non, H1, J, rfl, q⟩⟩
end
/-- what such an __init__ does -/
def spI (G : GC) (C f : Str) : Sp := fun vs H Q _ => ∃ a v, vs = [.ref a, v] ∧ H a = some (exo a (He.ga G.K C) none) ∧ ∀ dx, H dx = none → dx ≠ a → Q .non (upd (upd H dx (exd dx [(f, v)])) a (exo a (He.ga G.K C) (some dx)))
structure FnI (G : GC) (k : Nat) (C f : Str) : Prop where
  ex : ∃ fd ps, FnOk G.P G.w G.K G.mg G.base (L2N.CX G.P G.w) k (He.fAd G.K (C, some "__init__")) fd ps (spI G C f) ∧ Binds G.K fd ps []
  ox : OexF G C f
/-- what the two lines of such an __init__ do -/
def tInit (K : PySem.W.Frag) (C f : Str) : TS := fun D σ H => ∃ a v, σ[0]? = some (some (.ref a)) ∧ σ[1]? = some (some v) ∧ H a = some (exo a (He.ga K C) none) ∧ ∀ dx, H dx = none → dx ≠ a → D.nx σ (upd (upd H dx (exd dx [(f, v)])) a (exo a (He.ga K C) (some dx)))
theorem pss_init {X : Cx} {C R x f m : Str} {j : Nat} {p1 p2 p3 p4 p5 p6 p7 p8 p9 p10 : Pos} {pl : Sem Bool} (ox : OexF X.gc C f) (T : RootF X.gc R) (hg : Gl X R) (hdb : (R == ("__debug__" : Str)) = false) (n0 : X.N[0]? = some x) (n1 : X.N[1]? = some f) (v0 : Vis X.env.scope x) (v1 : Vis X.env.scope f)
    (d0 : (x == ("__debug__" : Str)) = false) (d1 : (f == ("__debug__" : Str)) = false) (c0 : (x == ("__classdict__" : Str)) = false) (c1 : (f == ("__classdict__" : Str)) = false)
    (hc : eval (.Call (.Attribute (.Name R p1) "__init__" p2) [.Name x p3, .Constant (.str m) j p4] [] p5) X.env = (do
      let ov ← eval (.Name R p1) X.env
      standAt p2.atName
      let (f, first) ← holding [ov] (getMethod ov "__init__" pl)
      callWith p5 f first (backTo p5 (starEach [.Name x p3, .Constant (.str m) j p4] X.env)) (backToKw p5 (keywordEach [] X.env))) := by rfl)
    (he : starEach [.Name x p3, .Constant (.str m) j p4] X.env = (false, eval (.Name x p3) X.env) :: starEach [.Constant (.str m) j p4] X.env := by rfl) (hpl : (backTo p5 (starEach [.Constant (.str m) j p4] X.env)).any (·.1) = false := by rfl)
    (he2 : starEach [.Constant (.str m) j p4] X.env = (false, eval (.Constant (.str m) j p4) X.env) :: starEach [] X.env := by rfl) (hs1 : swapsWith (.Call (.Attribute (.Name R p1) "__init__" p2) [.Name x p3, .Constant (.str m) j p4] [] p5) none p6.line X.env = pure false := by rfl)
    (hs2 : swapsWith (.Name f p9) (some (.Attribute (.Name x p7) f p8)) p10.line X.env = pure false := by rfl) :
    PSs X [.Expr (.Call (.Attribute (.Name R p1) "__init__" p2) [.Name x p3, .Constant (.str m) j p4] [] p5) p6, .Assign [.Attribute (.Name x p7) f p8] (.Name f p9) p10] (tInit X.K C f) :=
  pss_imp (pss_cons (ps_expr (pe_rinit T hg (pa_cons (pe_var n0 v0 d0 c0) (pa_cons pe_str pa_nil he2) he) hdb hc he hpl) hs1) (pss_one (ps_ost (pe_var n0 v0 d0 c0) (pe_var n1 v1 d1 c1) hs2)))
    fun D σ H ⟨a, v, h0, h1, ea, q⟩ => ⟨.ref a, h0, a, He.ga X.K C, [.str m], rfl, by show (1 : Nat) ≤ 1000; decide, ox.ox, ea, v, h1, .ref a, h0, a, He.ga X.K C, rfl, ox.ox, ox.no, .inl ⟨ea, q⟩⟩
theorem def_okI {G : GC} {C q : Str} {st : Stmt} {N ps : List Str} {f : Str} {k : Nat} (F : MetF G C "__init__" q st) (ox : OexF G C f) (S : FnScope N ps (defScope st)) (hN : N.length = 2) (hn : ps.length = 2)
    (hb : ∀ (kV doc pm : Value) (an : Option Addr) (cdv ct : Value) (us : List Value), us.length = ps.length → bindArgs (PySem.W.fnOf "__init__" q (defArgs st) (defBody st) (defScope st) .none kV doc pm an cdv ct) ⟨us, []⟩ = pure (ps.zip us))
    (der : ∀ (cdv : Value) (A : Around) (outer : List PySem.Env) (s : Shared) (H : Hp) (E : XK), PSs (cxOf (L2N.CX G.P G.w) G.P G.w G.K G.mg G.base N q (defScope st) (He.fAd G.K (C, some "__init__")) cdv A outer s H E) (defBody st) (tInit G.K C f)) : FnI G (k + 1) C f := by
  obtain ⟨fd, FD⟩ := F.ex
  refine ⟨⟨fd, ps, FD.ok S (fun vs H Q E h => ?_) (fun cdv A outer s H vs Q E hr h => ⟨_, der cdv A outer s H E, ?_⟩), FD.bindsN hb⟩, ox⟩
  · obtain ⟨a, v, rfl, _⟩ := h
    exact hn.symm
  · obtain ⟨a, v, rfl, ea, q⟩ := h
    match N, hN with
    | [x, y], _ => exact ⟨a, v, rfl, rfl, ea, q⟩
/-! ### C(e) is raised -/
theorem pmk_oexN {X : Cx} {x : Str} {C fI : Addr} {k : Nat} {fd : FuncData} {ps : List Str} {sp : Sp} {e : Expr} {ta : TA} {p pos : Pos} (T : OexC X.K C) (ini : PySem.W.findIn X.K (.ref C) "__init__" = some (some (.ref fI))) (ti : PySem.W.typeIn X.K (.ref fI) = some (.type "function"))
    (FO : FnOk X.prog X.w X.K X.mg X.base (L2N.CX X.prog X.w) k fI fd ps sp) (rm : Room (k + 1) X.A) (hb : Binds X.K fd ps []) (hx : Passes (L2N.CX X.prog X.w) X (fun _ _ _ => False)) (hg : Gl X x) (gl : X.mg x = some (.ref C)) (ha : L2.PA X [e] ta)
    (hdb : (x == ("__debug__" : Str)) = false := by decide) (he : starEach [e] X.env = (false, eval e X.env) :: starEach [] X.env := by rfl) (hpl : (backTo pos (starEach [] X.env)).any (·.1) = false := by rfl) :
    L2N.PMk X (.Call (.Name x p) [e] [] pos) (tMkO C sp [] ta) := fun pins s σ H Q I w => by
  obtain ⟨_, _, _, _, bm, _, _, _, _, _, _, _, _, _, _, hC, hbm⟩ := T.cls
  refine wpAny_Call_Name_kw (ld_glob I hg gl (PySem.W.callWith_K (h₀ := X.base) I.ok.mod.kin T.kC (thn (ha.run pos pins s σ H _ I w) fun us s1 ⟨vs, H1, I1, rv, hz, q⟩ => ⟨I1.kIn, ?_⟩) he hpl) hdb)
  obtain ⟨hp, gs, dr, tk, os⟩ := s1
  have up : hp.objs.size ≤ hp.objs.size + 1 := Nat.le_add_right _ 1
  have qa := q _ (I1.hok.fresh up)
  rw [List.append_nil] at qa
  let h2 : Heap := (hp.push (PySem.W.kdv_tup us)).push (PySem.HandSPX.excO C hp.objs.size)
  have keep : ∀ b o, hp.get? b = some o → h2.get? b = some o := fun b o z => Heap.get?_push_of_some _ (Heap.get?_push_of_some _ z)
  have here : h2.get? (hp.objs.size + 1) = some (PySem.HandSPX.excO C hp.objs.size) := by show ((hp.push (PySem.W.kdv_tup us)).push _).get? _ = _; heap_get
  have I2 : Inv X pins σ (upd H1 (hp.objs.size + 1) (exo (hp.objs.size + 1) C none)) ⟨h2, gs, dr, tk, os⟩ := I1.laid (t' := tk) keep up (exo_ok here)
  have r2 : Vals (V.ref (hp.objs.size + 1) :: vs) (Value.ref (hp.objs.size + 1) :: us) := .cons rfl rv
  have hlen : (Value.ref (hp.objs.size + 1) :: us).length = ps.length := r2.length.symm.trans (FO.len _ _ _ _ qa)
  have bb := hb _ (Value.ref (hp.objs.size + 1) :: us) I2.kIn (by rw [List.append_nil]; exact hlen)
  rw [List.append_nil] at bb
  have small : us.length ≤ sizeLine := by rw [← Paired.length rv, sizeLine_eq]; omega
  show wpAny _ _ (call (.ref C) us) _ _ _
  refine wpAny_call (PySem.HandSPX.call_own F.excBase_ValueError (fun Y => PySem.HandSPX.refsVE_contains Y bm hbm) (I1.kIn _ _ hC) (PySem.W.looks_findIn I1.kIn ini) (fun self => PySem.W.bind_fn I1.kIn self ti) small ?_)
  refine codeAny_mono (FO.run _ X.stack _ _ ⟨Value.ref (hp.objs.size + 1) :: us, []⟩ _ _ _ (fun _ _ _ => False) (rm.make C us []) (I2.env0.make C us []) bb r2 qa) fun r s2 out => ?_
  match r, out with
  | .error ee, out => exact hx pins σ _ _ ee s2 I2 out
  | .ok (.ret u), out =>
    obtain ⟨v, H2, o2, b2, un2, k2, ru, ev, d, fs, ea, ed, nd, q2⟩ := out
    subst ev
    obtain ⟨h3, g3, d3, t3, o3⟩ := s2
    obtain ⟨t0, G, J, kG, ge, hoe, na⟩ := mk_end0 (d2 := d3) (t2 := t3) I1 up keep un2 k2 o2 b2 ea ed nd
    exact ⟨ru, hp.objs.size + 1, _, _, ⟨G, g3, d3, t3, o3⟩, _, .ref C, some d, rfl, J, kG, ge, hoe, ⟨rfl, rfl, fun vs z => by cases z; rfl⟩, rfl, rfl, na, rfl, b2, raises_own T.exC T.tyC, q2⟩
/-- raise C(e) -/
def gRaiseX (ms : List Nat) (C f : Str) (h : EM) : SM := fun ρ s => exprS (h (vw (fz ms ρ)) s) fun d _ => .ex ⟨C, some (f, d)⟩
section
variable {X : Cx} {p : Option PQ} {E : XK} {F0 H0 : Hp}
theorem psd_raiseX {C f : Str} {e : Expr} {h : EM} {ms : List Nat} {k j : Nat} {p1 pos pos' : Pos} {W : WX} (Fn : FnI X.gc k C f) (hp : ∀ a, p = some (.sp a) → H0 a ≠ none) (rm : Room j X.A) (hk : k + 1 ≤ j) (hc : X.calm = true) (tk : L2N.Takes X W) (hW : ∀ cls d σ H, E cls d H → W cls d σ H)
    (hx : Passes (L2N.CX X.prog X.w) X (fun _ _ _ => False)) (hg : Gl X C) (he : PED X p E e h) (hdb : (C == ("__debug__" : Str)) = false := by decide)
    (hs : starEach [e] X.env = (false, eval e X.env) :: starEach [] X.env := by rfl) (hpl : (backTo pos' (starEach [] X.env)).any (·.1) = false := by rfl) :
    PSD X p E F0 H0 (.Raise (some (.Call (.Name C p1) [e] [] pos')) none pos) (gRaiseX ms C f h) := by
  obtain ⟨fd, ps, FO, hb⟩ := Fn.ex
  refine ps_imp (L2N.ps_raise hc tk (pmk_oexN Fn.ox.ox Fn.ox.ini Fn.ox.ti FO (rm.mono hk) hb hx hg Fn.ox.gl (pa_cons he pa_nil hs) hdb hs hpl)) fun D σ H ⟨F, ρ, s, st, q⟩ => ?_
  refine expr_run hp st q fun d s' F2 v H2 st2 eF _ hv q2 => ?_
  refine ⟨by show (1 : Nat) ≤ 1000; decide, fun a na => ⟨a, v, rfl, upd_same, fun dx nd da => ⟨rfl, dx, [(f, v)], upd_same, ?_, ?_, ?_⟩⟩⟩
  · rw [upd_ne da, upd_same]
  · rw [upd_ne da] at nd; exact nd
  · have nd' : H2 dx = none := by rw [upd_ne da] at nd; exact nd
    have eH : upd (del (upd (upd (upd H2 a (exo a (He.ga X.K C) none)) dx (exd dx [(f, v)])) a (exo a (He.ga X.K C) (some dx))) a) dx (.xd [(f, v)]) = upd H2 dx (.xd [(f, v)]) := by
      funext b
      by_cases hd : b = dx
      · rw [hd, upd_same, upd_same]
      · rw [upd_ne hd, upd_ne hd]
        by_cases hba : b = a
        · rw [hba, del_same, na]
        · rw [del_ne hba, upd_ne hba, upd_ne hd, upd_ne hba]
    rw [eH]
    have x2 : Ext X.gc p F2 H2 F2 (upd H2 dx (.xd [(f, v)])) := Ext.mine st2.ext.fh nd'
    have w := q2 F2 _ eF (st2.ext.trans x2)
    unfold ExW at w
    exact hW _ _ _ _ (w dx v upd_same hv)
end
end DL
end

section
set_option Elab.async false
set_option linter.all false
set_option maxRecDepth 100000
set_option maxHeartbeats 4000000
/-! The data layer, part 41: errors with an attribute of their own are handled. -/
namespace DL
open PySem PySem.Spec PyProof.Rows L2
/-- the dict of an error, if it has one, is known -/
def XdIn (H : Hp) (d : Option Addr) : Prop := ∀ dx, d = some dx → ∃ fs, H dx = some (.xd fs)
theorem XdIn.ex {F H : Hp} {d : Option Addr} (x : XdIn F d) (e : Ex F H) : XdIn H d := fun dx h => let ⟨fs, q⟩ := x dx h; ⟨fs, e _ _ q⟩
theorem xd_nT {fs : List (Str × V)} : nT (.xd fs) := fun _ z => nomatch z
/-- the frozen part with that dict, and back -/
theorem xd_part {G : GC} {F H : Hp} {d : Option Addr} (e : Ex F H) (t : TbF G F H) (xd : XdIn H d) : ∃ Fx, Ex Fx H ∧ TbF G Fx H ∧ XdIn Fx d ∧ ∀ F2 H2, Ext G none Fx H F2 H2 → ∃ F3, Ext G none F H F3 H2 := by
  cases d with
  | none =>
    have x0 : XdIn F none := fun _ z => nomatch z
    exact ⟨F, e, t, x0, fun F2 H2 x => ⟨F2, x⟩⟩
  | some dx =>
    obtain ⟨fs, hx⟩ := xd dx rfl
    have tn : ∀ z ∈ TK G.K, z.1 ≠ dx := fun z hz q => by
      obtain ⟨ps, h⟩ := t.1.some hz
      rw [q, hx] at h; cases h
    refine ⟨fun a => if a = dx then some (.xd fs) else F a, fun a u h => ?_, ⟨t.1, fun z hz => ?_⟩, fun dx' h => ⟨fs, ?_⟩, fun F2 H2 x => ⟨fun a => if F a = none ∧ a = dx then none else F2 a, ?_⟩⟩
    · by_cases ha : a = dx
      · simp only [ha, if_true] at h
        rw [ha, hx]; exact h
      · simp only [ha, if_false] at h
        exact e a u h
    · simp only [tn z hz, if_false]
      exact t.2 z hz
    · cases h; simp
    · have keep : ∀ {a u}, F a = some u → F2 a = some u := fun {a u} h => x.ff a u (by
        by_cases ha : a = dx
        · have := e a u h
          rw [ha, hx] at this
          simp only [ha, if_true]; exact this
        · simp only [ha, if_false]; exact h)
      refine ⟨fun a u h => ?_, fun a u h => ?_, fun a h => ?_, x.st, x.dom, x.tb⟩
      · rw [if_neg (fun z => by rw [z.1] at h; cases h)]
        exact keep h
      · split at h
        · cases h
        · exact x.fh a u h
      · by_cases hn : F a = none ∧ a = dx
        · show (if F a = none ∧ a = dx then none else F2 a) = F a
          rw [if_pos hn, hn.1]
        · show (if F a = none ∧ a = dx then none else F2 a) = F a
          rw [if_neg hn, x.own a h]
          by_cases ha : a = dx
          · cases hF : F a with
            | none => exact absurd ⟨hF, ha⟩ hn
            | some u =>
              have := e a u hF
              rw [ha, hx] at this
              simp only [ha, if_true]; exact this
          · simp only [ha, if_false]
/-- the error at y: its class, its dict -/
def ExO8 (K : PySem.W.Frag) (y : Addr × Obj) (c : Str) (d : Option Addr) : Prop := L2N.Zn (.ref (He.ga K c)) d y.2 ∧ ∃ vs, y.2.data = .fields vs
section
variable {X : Cx} {E : XK}
theorem isE_run8 {pins : List (Addr × Obj)} {σ : L2.St} {H : Hp} {s : Shared} {Q : VK} {y : Addr × Obj} {c : Str} {d : Option Addr} {cv : Value} {b : Bool} (hy : y ∈ X.pn) (C : ExcC X.K (He.ga X.K c)) (z : ExO8 X.K y c d) (xd : XdIn H d) (e : PySem.W.kitOne X.K (.ref (He.ga X.K c)) cv = some b) (I : Inv X pins σ H s) (q : Q (.bl b) H) :
    wpAny (model X.prog X.w) X.A (call (.builtin "isinstance") [.ref y.1, cv]) (EP X pins σ Q) X.xe s := by
  obtain ⟨⟨z1, z2, _⟩, vs, z3⟩ := z
  have g := (I.pin y (List.mem_append_left _ hy)).1
  have J : ∃ od, PySem.W.InstAt s.heap y.1 y.2 (He.ga X.K c) od := by
    have nc : PySem.W.notCls y.2 = true := by unfold PySem.W.notCls; rw [z3]
    cases d with
    | none => exact ⟨none, g, z1, nc, by rw [z2]; trivial⟩
    | some dx =>
      obtain ⟨fs, hx⟩ := xd dx rfl
      have ob : ObjOk X.prog X.w H s.heap dx (.xd fs) := I.hok dx _ hx
      obtain ⟨mA, hns, _⟩ := ob
      obtain ⟨od, ho, _⟩ := lookIn_ns hns
      exact ⟨some od, g, z1, nc, by rw [z2]; exact ho⟩
  obtain ⟨od, J⟩ := J
  have cl : (PySem.W.clsIn X.K (He.ga X.K c)).isSome = true := by
    have h := C.hd
    unfold PySem.W.hasDictIn at h
    obtain ⟨cd, h1, _⟩ := PySem.W.any_some h
    rw [h1]; rfl
  exact PySem.W.kia_one (PySem.W.kitx_exc cl C.hg C.hk C.hs C.ha C.hn C.ht C.hm) I.kIn J e (fun w => nomatch w) fun tk => ⟨.bl b, H, I.kept (t' := tk) fun _ _ w => w, rfl, q⟩
theorem pd_isE8 {x : Expr} {i : Nat} {y : Addr × Obj} {c cn : Str} {d : Option Addr} {F1 : Hp} {cv : V} {cu : Value} {b : Bool} {pos q q2 : Pos} (hy : y ∈ X.pn) (C : ExcC X.K (He.ga X.K c)) (z : ExO8 X.K y c d) (xd : XdIn F1 d) (e : PySem.W.kitOne X.K (.ref (He.ga X.K c)) cu = some b) (hx : PE X x (tVar i)) (hn : PE X (.Name cn q2) (tC cv)) (hu : ∀ u, L2.RelV cv u → u = cu)
    (hg : Gl X "isinstance") (hm : X.mg "isinstance" = none) (hs : starEach [x, .Name cn q2] X.env = (false, eval x X.env) :: starEach [.Name cn q2] X.env := by rfl) (hpl : (backTo pos (starEach [.Name cn q2] X.env)).any (·.1) = false := by rfl) :
    PED X (some (.fn F1)) E (.Call (.Name "isinstance" q) [x, .Name cn q2] [] pos) (eIsE y.1 i b) := by
  have hc : CallR X (.builtin "isinstance") (fun vs H Q => vs = [.ref y.1, cv] ∧ XdIn H d ∧ Q (.bl b) H) := fun pins s σ H xs us Q I r h => by
    obtain ⟨rfl, h0, h⟩ := h
    obtain ⟨u1, u2, rfl, r1, r2⟩ : ∃ u1 u2, us = [u1, u2] ∧ L2.RelV (.ref y.1) u1 ∧ L2.RelV cv u2 := by
      cases r with
      | cons r1 r => cases r with
        | cons r2 r => cases r; exact ⟨_, _, rfl, r1, r2⟩
    cases r1
    rw [hu u2 r2]
    exact isE_run8 hy C z h0 e I h
  refine pe_imp (pe_callB hc hg hm (by decide +kernel) (pa_cons hx (pa_cons hn pa_nil) hs) (by decide) (by decide) hs hpl) fun σ H Q ⟨F, ρ, s, pre, post⟩ => ?_
  unfold eIsE at post
  cases hj : ρ[i]? with
  | none => rw [hj] at post; exact post.elim
  | some o =>
    cases o with
    | none => rw [hj] at post; exact post.elim
    | some dd =>
      rw [hj] at post
      cases hq : isSp y.1 dd with
      | false => simp only [hq] at post; exact post.elim
      | true =>
        simp only [hq, if_true] at post
        obtain ⟨v, h1, h2⟩ := pre.rd i dd hj
        obtain ⟨rfl, rfl⟩ := isSp_opq h2 hq
        exact ⟨_, h1, rfl, xd.ex (pre.sr.2.2.trans pre.ex), Post.okI post pre.ex pre.sr (.bl b)⟩
end
/-! ### what the head tells of all the classes -/
structure ExcK8 (G : GC) : Prop where
  cls : ∀ c ∈ excs8, ExcC G.K (He.ga G.K c)
  kit : ∀ c ∈ excs8, ∀ d ∈ excs8, PySem.W.kitOne G.K (.ref (He.ga G.K c)) (.ref (He.ga G.K d)) = some (decide (c = d))
  ve : ∀ c ∈ excs8, PySem.W.kitOne G.K (.ref (He.ga G.K c)) (.type "ValueError") = some true
  many : ∀ c ∈ excs8, PySem.W.exmOne G.K (.ref (He.ga G.K c)) (.ref (He.ga G.K "TooMany")) = some (decide (c = "TooMany"))
  text : ∀ c ∈ excs8, PySem.W.exmOne G.K (.ref (He.ga G.K c)) (.ref (He.ga G.K "InvalidText")) = some (decide (c = "InvalidText"))
  reel : ∀ c ∈ excs8, PySem.W.exmOne G.K (.ref (He.ga G.K c)) (.ref (He.ga G.K "ReelError")) = some true
  no1 : PySem.W.findIn G.K (.ref (He.ga G.K "TooMany")) "limit" = some none
  no2 : PySem.W.findIn G.K (.ref (He.ga G.K "InvalidText")) "line" = some none
  gl : ∀ d ∈ excs8, G.mg d = some (.ref (He.ga G.K d))
  glR : G.mg "ReelError" = some (.ref (He.ga G.K "ReelError"))
def excKB8 (K : PySem.W.Frag) : Bool :=
  (excs8.all fun c => (decide (PySem.W.findIn K (.ref (He.ga K c)) "__getattribute__" = some (some (.builtin "BaseException.__getattribute__"))) && decide (PySem.W.findIn K (.ref (He.ga K c)) "__getattr__" = some none)) &&
    ((decide (PySem.W.subIn K (.ref (He.ga K c)) (.type "BaseException") = some true) && PySem.W.hasDictIn K (He.ga K c)) && ((decide (PySem.W.findIn K (.ref (He.ga K c)) "__class__" = some (some (.builtin "object.__class__"))) && decide (PySem.W.specialIn K (.builtin "object.__class__") "__get__" = some (some (.builtin "getset_descriptor.__get__")))) &&
    ((decide (PySem.W.takesIn K (.builtin "object.__class__") = some true) && decide (PySem.W.mroIn K (He.ga K c) (.type "object") = some true)) && ((excs8.all (fun d => decide (PySem.W.kitOne K (.ref (He.ga K c)) (.ref (He.ga K d)) = some (decide (c = d)))) && decide (PySem.W.kitOne K (.ref (He.ga K c)) (.type "ValueError") = some true)) &&
    (decide (PySem.W.exmOne K (.ref (He.ga K c)) (.ref (He.ga K "TooMany")) = some (decide (c = "TooMany"))) && (decide (PySem.W.exmOne K (.ref (He.ga K c)) (.ref (He.ga K "InvalidText")) = some (decide (c = "InvalidText"))) && decide (PySem.W.exmOne K (.ref (He.ga K c)) (.ref (He.ga K "ReelError")) = some true)))))))) &&
  (decide (PySem.W.findIn K (.ref (He.ga K "TooMany")) "limit" = some none) && decide (PySem.W.findIn K (.ref (He.ga K "InvalidText")) "line" = some none))
theorem excK8_of {G : GC} (h : excKB8 G.K = true) (gl : ∀ d ∈ excs8, G.mg d = some (.ref (He.ga G.K d))) (glR : G.mg "ReelError" = some (.ref (He.ga G.K "ReelError"))) : ExcK8 G := by
  unfold excKB8 at h
  simp only [List.all_eq_true, Bool.and_eq_true, decide_eq_true_eq] at h
  obtain ⟨h, n1, n2⟩ := h
  exact ⟨fun c hc => let ⟨⟨a1, a2⟩, ⟨a3, a4⟩, ⟨a5, a6⟩, ⟨a7, a8⟩, _⟩ := h c hc; ⟨a1, a2, a3, a4, a5, a6, a7, a8⟩, fun c hc d hd => (h c hc).2.2.2.2.1.1 d hd, fun c hc => (h c hc).2.2.2.2.1.2, fun c hc => (h c hc).2.2.2.2.2.1, fun c hc => (h c hc).2.2.2.2.2.2.1, fun c hc => (h c hc).2.2.2.2.2.2.2, n1, n2, gl, glR⟩
/-! ### the def that tells the classes -/
def spK8 (G : GC) (y : Addr × Obj) : Sp := fun vs H Q _ => ∃ c d F, c ∈ excs8 ∧ ExO8 G.K y c d ∧ XdIn F d ∧ vs = [.ref y.1] ∧ Ex F H ∧ TbF G F H ∧ ∀ F' H', Ext G none F H F' H' → Q (.str (kindsOf c)) H'
structure FnK8 (G : GC) (k : Nat) (x : Str) : Prop where
  ex : ∃ fd ps, FnX G.P G.w G.K G.mg G.base (L2N.CX G.P G.w) k (He.ga G.K x) fd ps (spK8 G) ∧ Binds G.K fd ps []
  gl : G.mg x = some (.ref (He.ga G.K x))
  kp : PySem.W.keepIn G.K (.ref (He.ga G.K x)) = true
theorem Ext.fn_none {G : GC} {F1 F H F' H' : Hp} (x : Ext G (some (.fn F1)) F H F' H') : Ext G none F H F' H' := ⟨x.ff, x.fh, x.own, fun a o _ h q => x.st a o (by simp) h q, x.dom, x.tb⟩
theorem def_okK8 {G : GC} {x : Str} {st : Stmt} {N ps : List Str} {k : Nat} {g : Addr → Str → SM} (F : DefF G x st) (S : FnScope N ps (defScope st)) (hn : ps.length = 1)
    (hb : ∀ (kV doc pm : Value) (an : Option Addr) (cdv ct : Value) (us : List Value), us.length = ps.length → bindArgs (PySem.W.fnOf x x (defArgs st) (defBody st) (defScope st) .none kV doc pm an cdv ct) ⟨us, []⟩ = pure (ps.zip us))
    (math : ∀ a c, c ∈ excs8 → runF (g a c) N.length [opq a] = .ok (.str (kindsOf c)))
    (der : ∀ (y : Addr × Obj) (c : Str) (d : Option Addr) (F1 : Hp), c ∈ excs8 → ExO8 G.K y c d → XdIn F1 d → ∀ (cdv : Value) (A : Around) (outer : List PySem.Env) (s : Shared) (H : Hp) (E : XK), L2H.Hot1 A y →
      PSsD (L2H.cxH (L2N.CX G.P G.w) G.P G.w G.K G.mg G.base N x (defScope st) (He.ga G.K x) cdv A outer s H E y) (some (.fn F1)) E F1 H (defBody st) (g y.1 c)) : FnK8 G (k + 1) x := by
  obtain ⟨fd, FD⟩ := F.ex
  refine ⟨⟨fd, ps, ?_, FD.bindsN hb⟩, F.gl, FD.kp⟩
  obtain ⟨oc, od, dV, kV, doc, pm, an, cdv, ct, osl, rfl, lk, hcd, _, _⟩ := FD.ex
  refine fnX_of lk hcd S (fun y vs H Q E h => ?_) fun A outer s H vs Q E y hot hr h => ?_
  · obtain ⟨c, d, F0, _, _, _, rfl, _⟩ := h
    rw [hn]; rfl
  · obtain ⟨c, d, F0, hc, hz, hxd, rfl, h1, ht, h4⟩ := h
    refine ⟨_, der y c d F0 hc hz hxd cdv A outer s H E hot, F0, [opq y.1].map L.d ++ List.replicate (N.length - [opq y.1].length) L.un, [], ⟨Ext.refl h1, ⟨ht, rfl, Ex.refl F0⟩, startL (.cons (.opq y.1) .nil) N⟩, ?_⟩
    have hm := math y.1 c hc
    unfold runF at hm
    show PostS _ (some (.fn F0)) E F0 H F0 (g y.1 c ([opq y.1].map L.d ++ List.replicate (N.length - [opq y.1].length) L.un) []) _
    cases hg : g y.1 c ([opq y.1].map L.d ++ List.replicate (N.length - [opq y.1].length) L.un) [] with
    | rt d s' =>
      rw [hg] at hm
      cases hm
      exact fun F v H' x _ hv => by rw [hv.inv_str]; exact h4 F H' x.fn_none
    | nx ρ s' => rw [hg] at hm; cases hm
    | bk ρ s' => rw [hg] at hm; cases hm
    | ct ρ s' => rw [hg] at hm; cases hm
    | ex e => rw [hg] at hm; cases hm
    | un => rw [hg] at hm; cases hm
/-! ### the clauses -/
/-- what a call of that def wants in a clause -/
def tKinds (X : Cx) (i : Nat) (a : Addr) (cls : Value) (d : Option Addr) : TE := fun σ H Q => σ[i]? = some (some (.ref a)) ∧ ∃ c F, c ∈ excs8 ∧ cls = .ref (He.ga X.K c) ∧ XdIn H d ∧ Ex F H ∧ TbF X.gc F H ∧ ∀ F' H', Ext X.gc none F H F' H' → Q (.str (kindsOf c)) H'
section
variable {X : Cx} {Fc F0 H0 : Hp} {E : XK}
theorem pe_kinds8 {x : Str} {i k : Nat} {a : Addr} {oe : Obj} {cls : Value} {d : Option Addr} {pn : List (Addr × Obj)} {n : Str} {p1 p2 p3 : Pos} (FK : FnK8 X.gc k x) (hr : Room k X.A) (hz : L2N.Zn cls d oe) (hv : ∃ vs, oe.data = .fields vs) (hx : PE (X.suite a ((a, oe) :: pn)) (.Name n p2) (tVar i))
    (hg : Gl X x := by rfl) (hdb : (x == ("__debug__" : Str)) = false := by decide) (he : starEach (.Name n p2 :: []) X.env = (false, eval (.Name n p2) X.env) :: starEach [] X.env := by rfl) (hpl : (backTo p3 (starEach [] X.env)).any (·.1) = false := by rfl) :
    PE (X.suite a ((a, oe) :: pn)) (.Call (.Name x p1) [.Name n p2] [] p3) (tKinds X i a cls d) := by
  obtain ⟨fd, ps, FX, hb⟩ := FK.ex
  refine ⟨fun pins s σ H Q I hw => ?_⟩
  obtain ⟨hs, c, F, hc, rfl, xd, e1, ht, hq⟩ := hw
  obtain ⟨Fx, ex1, tx1, xd1, back⟩ := xd_part e1 ht xd
  refine wpAny_Call_Name_kw (ld_glob I (show Gl (X.suite a ((a, oe) :: pn)) x from hg) FK.gl ?_ hdb)
  have pa : L2.PA (X.suite a ((a, oe) :: pn)) [.Name n p2] (tCons (tVar i) tNil) := pa_cons hx pa_nil he
  refine PySem.W.callWith_K (h₀ := X.base) I.ok.mod.kin FK.kp (thn (pa.run p3 pins s σ H (fun vs H1 => vs = [.ref a] ∧ H1 = H) I ⟨.ref a, hs, rfl, rfl⟩) fun us s1 ⟨vs, H1, I1, r, ev, eH⟩ => ⟨I1.kIn, ?_⟩) he hpl
  subst ev eH
  have P1 := I1.pin (a, oe) (List.mem_append_left _ List.mem_cons_self)
  have pok : L2H.PinOk X.stack H1 s1 (a, oe) := ⟨P1.1, P1.2.1, fun hm => (List.mem_cons.mp (I1.stkSub a hm)).elim P1.2.2.1 P1.2.2.2.1, P1.2.2.2.2⟩
  obtain ⟨vs0, hd0⟩ := hv
  have hsp : spK8 X.gc (a, oe) [V.ref a] H1 Q (fun _ _ _ => False) := ⟨c, d, Fx, hc, ⟨hz, vs0, hd0⟩, xd1, rfl, ex1, tx1, fun F' H' x => let ⟨F3, y⟩ := back F' H' x; hq F3 H' y⟩
  have hl := FX.len _ _ _ _ _ hsp
  have b := hb s1 us I1.kIn (by rw [List.append_nil, ← r.length]; exact hl)
  rw [List.append_nil] at b
  have rm : L2H.RoomH k (X.suite a ((a, oe) :: pn)).A := ⟨hr.dp, hr.un⟩
  refine wpAny_call (codeAny_mono (FX.run _ X.stack s1 H1 ⟨us, []⟩ us [.ref a] Q (fun _ _ _ => False) (a, oe) rm ⟨rfl, vs0, hd0, hz.2.2 vs0 hd0⟩ pok I1.env0 b r hsp) fun r s' out => ?_)
  match r, out with
  | .error e, out => obtain ⟨_, _, _, _, _, _, _, _, _, _, _, _, z⟩ := (show L2N.CX X.prog X.w X.stack H1 s1 (fun _ _ _ => False) e s' from out); exact z.elim
  | .ok (.ret u), out => exact I1.after out
/-- x = (kinds(e),) -/
def tsK8 (X : Cx) (i j : Nat) (a : Addr) (cls : Value) (d : Option Addr) : TS := fun D σ H => tKinds X i a cls d σ H fun v H1 => ∀ p, H1 p = none → D.nx (σ.set j (some (.ref p))) (upd H1 p (.tup [v]))
theorem pss_suiteK8 {e tg : Expr} {j : Nat} {i : Nat} {a : Addr} {oe : Obj} {cls : Value} {d : Option Addr} {pn : List (Addr × Obj)} {x1 : Nat} {p1 pos : Pos}
    (h : PE (X.suite a ((a, oe) :: pn)) e (tKinds X i a cls d)) (hgn : PG (X.suite a ((a, oe) :: pn)) tg (gName j))
    (he : starEach (e :: []) X.env = (false, eval e X.env) :: starEach [] X.env := by rfl) (hs : swapsWithSole [tg] (.Tuple [e] x1 p1) pos.line X.env = pure false := by rfl) (hw : swappedStores [tg] (.Tuple [e] x1 p1) X.env = pure none := by rfl) (h1 : (assignEach [tg] X.env).map (·.2) = [assign tg X.env] := by rfl) :
    PSs (X.suite a ((a, oe) :: pn)) [.Assign [tg] (.Tuple [e] x1 p1) pos] (tsK8 X i j a cls d) :=
  pss_imp (pss_one (ps_asg (pe_tup (pa_cons h pa_nil he)) hgn hs hw h1)) fun D σ H ⟨g1, c, F, g2, g3, g4, g5, g6, g7⟩ => ⟨g1, c, F, g2, g3, g4, g5, g6, fun F' H' x => ⟨by show (1 : Nat) ≤ sizeLine; decide, fun q hq => g7 F' H' x q hq⟩⟩
/-- x = (kinds(e), e.f) -/
def tsA8 (X : Cx) (i j : Nat) (C f : Str) (a : Addr) (cls : Value) (d : Option Addr) : TS := fun D σ H => tKinds X i a cls d σ H fun v H1 => cls = .ref (He.ga X.K C) ∧ ∃ dx fs w, d = some dx ∧ H1 dx = some (.xd fs) ∧ fs.lookup f = some w ∧ ∀ p, H1 p = none → D.nx (σ.set j (some (.ref p))) (upd H1 p (.tup [v, w]))
theorem pss_suiteA8 {e e2 tg : Expr} {C f : Str} {j : Nat} {i : Nat} {a : Addr} {oe : Obj} {cls : Value} {d : Option Addr} {pn : List (Addr × Obj)} {x1 : Nat} {p1 p2 pos : Pos} (ec : ExcC X.K (He.ga X.K C)) (no : PySem.W.findIn X.K (.ref (He.ga X.K C)) f = some none) (hz : L2N.Zn cls d oe) (hv : ∃ vs, oe.data = .fields vs)
    (h : PE (X.suite a ((a, oe) :: pn)) e (tKinds X i a cls d)) (h2 : PE (X.suite a ((a, oe) :: pn)) e2 (tVar i)) (hgn : PG (X.suite a ((a, oe) :: pn)) tg (gName j)) (hb : attributeBase e2 f X.env (eval e2 X.env) = eval e2 X.env := by rfl)
    (he : starEach [e, .Attribute e2 f p2] X.env = (false, eval e X.env) :: starEach [.Attribute e2 f p2] X.env := by rfl) (he2 : starEach [.Attribute e2 f p2] X.env = (false, eval (.Attribute e2 f p2) X.env) :: starEach [] X.env := by rfl)
    (hs : swapsWithSole [tg] (.Tuple [e, .Attribute e2 f p2] x1 p1) pos.line X.env = pure false := by rfl) (hw : swappedStores [tg] (.Tuple [e, .Attribute e2 f p2] x1 p1) X.env = pure none := by rfl) (h1 : (assignEach [tg] X.env).map (·.2) = [assign tg X.env] := by rfl) :
    PSs (X.suite a ((a, oe) :: pn)) [.Assign [tg] (.Tuple [e, .Attribute e2 f p2] x1 p1) pos] (tsA8 X i j C f a cls d) :=
  pss_imp (pss_one (ps_asg (pe_tup (pa_cons h (pa_cons (pe_xf ⟨ec.hg, ec.hk, ec.hs, ec.hd⟩ no hz.zc hv h2 hb) pa_nil he2) he)) hgn hs hw h1)) fun D σ H ⟨g1, c, F, g2, g3, g4, g5, g6, g7⟩ => ⟨g1, c, F, g2, g3, g4, g5, g6, fun F' H' x => by
    obtain ⟨k1, dx, fs, w, k2, k3, k4, k5⟩ := g7 F' H' x
    exact ⟨.ref a, g1, rfl, k1, dx, fs, w, k2, k3, k4, by show (2 : Nat) ≤ sizeLine; decide, fun q hq => k5 q hq⟩⟩
/-- what is told of an error -/
def kdM8 (e : Exn) : R D := match e.arg with
  | none => if excs6.contains e.cls then .ok (.tuple [.str (kindsOf e.cls)]) else .un
  | some (nm, d) => if (e.cls == "TooMany" && nm == "limit") || (e.cls == "InvalidText" && nm == "line") then .ok (.tuple [.str (kindsOf e.cls), d]) else .un
def gTryK8 (n : Nat) (g : SM) (j : Nat) : SM := fun ρ s => match g ρ s with
  | .ex e => match kdM8 e with
    | .ok d => .nx ((List.replicate n L.un).set j (.d d)) s
    | _ => .un
  | r => r
theorem psd_tryK8 {n : Str} {i j : Nat} {body s1 s2 s3 : List Stmt} {b1 b2 b3 : Stmt} {gb : SM} {q1 q2 q3 q4 q5 q6 pos : Pos} (hs0 : SRel X.gc (some (.fn Fc)) F0 H0 []) (K : ExcK8 X.gc) (hst : X.stack = X.env :: X.outer) (hfr : X.env.frame = some X.env.locals) (hN : X.N.Nodup) (hi : X.N[i]? = some n) (hln : X.env.kindOf n = some .local)
    (hij : i ≠ j) (hbody : ∀ (pn : List (Addr × Obj)) (xe : Value → Shared → Prop) (E' : XK), Passes (L2N.CX X.prog X.w) (X.tr pn xe) E' → PassesOwn (model X.prog X.w) X.A X.env xe → PSsD (X.tr pn xe) (some (.fn Fc)) E' F0 H0 body gb)
    (hs1 : ∀ (a : Addr) (oe : Obj) (cls : Value) (d : Option Addr) (pn : List (Addr × Obj)), L2N.Zn cls d oe → (∃ vs, oe.data = .fields vs) → PSs (X.suite a ((a, oe) :: pn)) (b1 :: s1) (tsA8 X i j "TooMany" "limit" a cls d))
    (hs2 : ∀ (a : Addr) (oe : Obj) (cls : Value) (d : Option Addr) (pn : List (Addr × Obj)), L2N.Zn cls d oe → (∃ vs, oe.data = .fields vs) → PSs (X.suite a ((a, oe) :: pn)) (b2 :: s2) (tsA8 X i j "InvalidText" "line" a cls d))
    (hs3 : ∀ (a : Addr) (oe : Obj) (cls : Value) (d : Option Addr) (pn : List (Addr × Obj)), L2N.Zn cls d oe → (∃ vs, oe.data = .fields vs) → PSs (X.suite a ((a, oe) :: pn)) (b3 :: s3) (tsK8 X i j a cls d))
    (hg1 : Gl X "TooMany" := by rfl) (hg2 : Gl X "InvalidText" := by rfl) (hg3 : Gl X "ReelError" := by rfl) :
    PSD X (some (.fn Fc)) E F0 H0 (.Try body [.ExceptHandler (some (.Name "TooMany" q1)) (some n) (b1 :: s1) q2, .ExceptHandler (some (.Name "InvalidText" q3)) (some n) (b2 :: s2) q4, .ExceptHandler (some (.Name "ReelError" q5)) (some n) (b3 :: s3) q6] [] [] pos) (gTryK8 X.N.length gb j) := by
  have hh : Hds X n [.ExceptHandler (some (.Name "TooMany" q1)) (some n) (b1 :: s1) q2, .ExceptHandler (some (.Name "InvalidText" q3)) (some n) (b2 :: s2) q4, .ExceptHandler (some (.Name "ReelError" q5)) (some n) (b3 :: s3) q6]
      [(.ref (He.ga X.K "TooMany"), tsA8 X i j "TooMany" "limit"), (.ref (He.ga X.K "InvalidText"), tsA8 X i j "InvalidText" "line"), (.ref (He.ga X.K "ReelError"), tsK8 X i j)] :=
    .cons ⟨hg1, by decide, .inl (K.gl "TooMany" (by decide))⟩ (fun a oe cls d pn hz hv => hs1 a oe cls d pn hz hv) (.cons ⟨hg2, by decide, .inl (K.gl "InvalidText" (by decide))⟩ (fun a oe cls d pn hz hv => hs2 a oe cls d pn hz hv) (.cons ⟨hg3, by decide, .inl K.glR⟩ (fun a oe cls d pn hz hv => hs3 a oe cls d pn hz hv) .nil))
  refine ps_imp (ps_try_each (Wo := fun _ _ _ _ => False) hst hfr hN hi hln (fun _ _ ⟨_, _, _, _, _, _, _, _, _, _, _, _, _, _, _, _, w⟩ => w.elim) (tb := fun W => tS X (some (.fn Fc)) (EW X W) F0 H0 gb)
    (fun W pn xe tk po => pss_imp (hbody pn xe (EW X W) (passes_EW tk) po) fun _ _ _ h => tS_tr h) hh) fun D σ H ⟨F, ρ, s, st, q⟩ => ?_
  refine ⟨F, ρ, s, st, ?_⟩
  have hs : s = [] := st.sr.2.1
  have li : i < X.N.length := (List.getElem?_eq_some_iff.mp hi).1
  have fin : ∀ {F' H' F2 H2 : Hp} {σ' : L2.St} {a : Addr} {v : V} {d : PyData}, Ex F F' → Ext X.gc (some (.fn Fc)) F0 H0 F' H' → Ext X.gc none F' H' F2 H2 → DD X.gc F2 v d → σ'.length = X.N.length →
      St7 X (some (.fn Fc)) F0 H0 F2 H2 (((σ'.set i (some (.ref a))).set j (some v)).set i none) ((List.replicate X.N.length L.un).set j (.d d)) s := fun {F' H' F2 H2 σ' a v d} eF x x2 hv hl => by
    have tb' : TbF X.gc F' H' := hs0.1.ext x
    refine ⟨x.trans x2.weak, ?_, ?_⟩
    · rw [hs]
      exact ⟨tb'.ext x2, rfl, (hs0.2.2.trans x.ff).trans x2.ff⟩
    · have ec : ((σ'.set i (some (.ref a))).set j (some v)).set i none = (σ'.set i none).set j (some v) := by
        rw [List.set_comm _ _ (show j ≠ i from fun h => hij h.symm), List.set_set]
      rw [ec]
      exact (blank_rel (by rw [List.length_set]; exact hl)).setD j hv
  unfold gTryK8 at q
  cases hgb : gb ρ s with
  | nx ρ' s' => rw [hgb] at q; exact q
  | bk ρ' s' => rw [hgb] at q; exact q
  | ct ρ' s' => rw [hgb] at q; exact q
  | rt d s' => rw [hgb] at q; exact q
  | un => rw [hgb] at q; exact q
  | ex e =>
    rw [hgb] at q
    obtain ⟨cl, ag⟩ := e
    cases hk : kdM8 ⟨cl, ag⟩ with
    | un => simp only [hk] at q; exact q.elim
    | ex e' => simp only [hk] at q; exact q.elim
    | ok d =>
      simp only [hk] at q
      intro F' H' eF x
      have tb' : TbF X.gc F' H' := hs0.1.ext x
      cases ag with
      | none =>
        have hk' : (if excs6.contains cl then R.ok (PyData.tuple [.str (kindsOf cl)]) else .un) = R.ok d := hk
        cases hc : excs6.contains cl with
        | false => rw [hc] at hk'; cases hk'
        | true =>
          rw [hc] at hk'
          cases hk'
          have hc6 : cl ∈ excs6 := by simpa using hc
          have hc8 : cl ∈ excs8 := by revert hc6; unfold excs6 excs8; simp only [List.mem_cons, List.not_mem_nil, or_false]; rintro (h | h | h | h | h | h) <;> simp [h]
          have nM : decide (cl = "TooMany") = false := by revert hc6; unfold excs6; simp only [List.mem_cons, List.not_mem_nil, or_false]; rintro (h | h | h | h | h | h) <;> subst h <;> decide
          have nT' : decide (cl = "InvalidText") = false := by revert hc6; unfold excs6; simp only [List.mem_cons, List.not_mem_nil, or_false]; rintro (h | h | h | h | h | h) <;> subst h <;> decide
          show EW X _ (.ref (He.ga X.K cl)) none H'
          intro σ' hl
          refine ⟨false, by rw [← nM]; exact K.many _ hc8, (fun z => nomatch z), fun _ => ⟨false, by rw [← nT']; exact K.text _ hc8, (fun z => nomatch z), fun _ => ⟨true, K.reel _ hc8, fun _ a na => ?_, (fun z => nomatch z)⟩⟩⟩
          refine ⟨by rw [List.getElem?_set_self (by rw [hl]; exact li)], cl, F', hc8, rfl, (fun _ z => nomatch z), x.fh, tb', fun F2 H2 x2 p hp => ?_⟩
          have x3 := x2.trans (Ext.new (G := X.gc) (q := none) (o := .tup [.str (kindsOf cl)]) x2.fh hp)
          exact q _ _ _ (eF.trans x3.ff) (fin eF x x3 (.tup (SqT.of upd_same) (.cons (.str _) .nil)) hl)
      | some nd =>
        obtain ⟨nm, dd⟩ := nd
        have hk' : (if (cl == "TooMany" && nm == "limit") || (cl == "InvalidText" && nm == "line") then R.ok (PyData.tuple [.str (kindsOf cl), dd]) else .un) = R.ok d := hk
        cases hc : ((cl == "TooMany" && nm == "limit") || (cl == "InvalidText" && nm == "line")) with
        | false => rw [hc] at hk'; cases hk'
        | true =>
          rw [hc] at hk'
          cases hk'
          intro x1 v1 hx1 hv1
          have end_ : ∀ (C : Str), C ∈ excs8 → C = cl → ∀ (σ' : L2.St), σ'.length = X.N.length → ∀ a, H' a = none → tsA8 X i j C nm a (.ref (He.ga X.K cl)) (some x1) (unName i D) (σ'.set i (some (.ref a))) H' := fun C hC eC σ' hl a na => by
            subst eC
            refine ⟨by rw [List.getElem?_set_self (by rw [hl]; exact li)], C, F', hC, rfl, (fun _ z => ⟨_, by cases z; exact hx1⟩), x.fh, tb', fun F2 H2 x2 => ⟨rfl, x1, _, v1, rfl, x2.ex _ _ hx1 xd_nT, by simp [List.lookup], fun p hp => ?_⟩⟩
            have x3 := x2.trans (Ext.new (G := X.gc) (q := none) (o := .tup [.str (kindsOf C), v1]) x2.fh hp)
            exact q _ _ _ (eF.trans x3.ff) (fin eF x x3 (.tup (SqT.of upd_same) (.cons (.str _) (.cons (hv1.ex x3.ff) .nil))) hl)
          show EW X _ (.ref (He.ga X.K cl)) (some x1) H'
          intro σ' hl
          rcases Bool.or_eq_true_iff.mp hc with h | h
          · obtain ⟨h1, h2⟩ := He.ba h
            have e1 : cl = "TooMany" := by simpa using h1
            have e2 : nm = "limit" := by simpa using h2
            subst e2
            refine ⟨true, by rw [e1]; exact K.many _ (by decide), fun _ a na => end_ "TooMany" (by decide) e1.symm σ' hl a na, (fun z => nomatch z)⟩
          · obtain ⟨h1, h2⟩ := He.ba h
            have e1 : cl = "InvalidText" := by simpa using h1
            have e2 : nm = "line" := by simpa using h2
            subst e2
            refine ⟨false, by rw [e1]; exact K.many _ (by decide), (fun z => nomatch z), fun _ => ⟨true, by rw [e1]; exact K.text _ (by decide), fun _ a na => end_ "InvalidText" (by decide) e1.symm σ' hl a na, (fun z => nomatch z)⟩⟩
end
end DL
end

section
set_option Elab.async false
set_option linter.all false
set_option maxRecDepth 100000
set_option maxHeartbeats 4000000
/-! The data layer, part 42: lists: count, index; int of a text. -/
namespace DL
open PySem PySem.Spec PyProof.Rows L2
/-! ### xs.count(x), xs.index(x) -/
def countD (x d : D) : Option D := match x with
  | .list ds => if pln d (.list ds) then some (.int (ds.countP fun y => PyData.eqv y d : Nat)) else none
  | _ => none
def indexD (x d : D) : Option D := match x with
  | .list ds => if pln d (.list ds) && decide (true ∈ ds.map fun y => PyData.eqv y d) then some (.int ((ds.map fun y => PyData.eqv y d).idxOf true : Nat)) else none
  | _ => none
def isLst : D → Bool
  | .list _ => true
  | _ => false
def eM1L (op : D → D → Option D) (f g : EM) : EM := fun ρ s => (f ρ s).bind fun x => if isLst x.1 then (g ρ x.2).bind fun y => ofO (op x.1 y.1) y.2 else .un
def rLM (G : GC) (op : D → D → Option D) : V → List V → Hp → VK → Prop := fun x xs H Q => ∃ y ds d n, xs = [y] ∧ DD G H x (.list ds) ∧ DD G H y d ∧ op (.list ds) d = some (.int n) ∧ Q (.int n) H
section
variable {X : Cx} {p : Option PQ} {E : XK} {o e : Expr} {f g : EM} {pos apos : Pos}
theorem min_room {X : Cx} {d : D} {ds : List D} (hu : X.A.units + 66 < cLine) (sd : shal d (.list ds) = true) : X.A.units + 1 + min (PyData.depthAll ds) d.depth < cLine := by
  have a := shal_min (n := X.A.units + 1) sd (by omega)
  have b : PyData.depthAll ds + 1 = (PyData.list ds).depth := by simp [PyData.depth]
  omega
theorem mt_count (hu : X.A.units + 66 < cLine) : MtR X "list.count" (rLM X.gc countD) := by
  intro pins s σ H x xs v us Q I rx rv h
  obtain ⟨y, ds, d, n, rfl, hx, hy, e, q⟩ := h
  obtain ⟨u, rfl, ru⟩ := rv.one
  obtain ⟨hp, en⟩ := ifSome (show (if pln d (.list ds) = true then some (PyData.int (ds.countP fun y => PyData.eqv y d : Nat)) else none) = some (.int n) from e)
  obtain ⟨sd, sp⟩ := band hp
  obtain ⟨pd, pl⟩ := band sp
  obtain ⟨as, r1⟩ := Dp.reads I d y u (hy.dp pd) ru
  obtain ⟨bs, r2⟩ := Dp.reads I (.list ds) x v (hx.dp pl) rx
  have room := min_room hu sd
  injection en with en
  subst en
  cases r2 with
  | list h1 h2 h3 h4 =>
    simp only [PyData.plain] at pl
    exact SeqAt.count_list_data ⟨_, h1, h2, _, h3⟩ h4 r1 pl pd room ⟨.int _, H, I.tok _, ⟨_, rfl⟩, q⟩
theorem mt_index (hu : X.A.units + 66 < cLine) : MtR X "list.index" (rLM X.gc indexD) := by
  intro pins s σ H x xs v us Q I rx rv h
  obtain ⟨y, ds, d, n, rfl, hx, hy, e, q⟩ := h
  obtain ⟨u, rfl, ru⟩ := rv.one
  obtain ⟨hp, en⟩ := ifSome (show (if (pln d (.list ds) && decide (true ∈ ds.map fun y => PyData.eqv y d)) = true then some (PyData.int ((ds.map fun y => PyData.eqv y d).idxOf true : Nat)) else none) = some (.int n) from e)
  obtain ⟨hp, hin⟩ := band hp
  obtain ⟨sd, sp⟩ := band hp
  obtain ⟨pd, pl⟩ := band sp
  obtain ⟨as, r1⟩ := Dp.reads I d y u (hy.dp pd) ru
  obtain ⟨bs, r2⟩ := Dp.reads I (.list ds) x v (hx.dp pl) rx
  have room := min_room hu sd
  injection en with en
  subst en
  cases hx with
  | @lst a ws _ s1 s2 =>
  obtain ⟨its, q1, q2, q3⟩ := I.list s1
  cases r2 with
  | list h1 h2 h3 h4 =>
    rename_i vs _ _
    simp only [PyData.plain] at pl
    have hl : ds.length ≤ sizeLine := by rw [← s2.len]; exact q3
    refine SeqAt.call_list_index (vs := vs.toList) (ks := ds.map fun y => PyData.eqv y d) (k := true) ⟨_, h1, h2, _, by rw [Array.toArray_toList]; exact h3⟩ ⟨by rw [List.length_map, Array.length_toList, SeqAt.len_at h4], fun j hj hk => ?_⟩ (by rw [List.length_map]; exact hl) (of_decide_eq_true hin) ⟨.int _, H, I.tok _, ⟨_, rfl⟩, q⟩
    have hj' : j < vs.size := by simpa using hj
    obtain ⟨h5, h6⟩ := SeqAt.readOf_at h4 pl j hj'
    have z := SeqAt.items_plain h4 r1 pl pd room vs[j] (Array.getElem_mem hj')
    rw [h6] at z
    have e1 : vs.toList[j] = vs[j] := by simp
    have e2 : decide ((ds.map fun y => PyData.eqv y d)[j] = true) = PyData.eqv ds[j] d := by
      rw [List.getElem_map]
      cases PyData.eqv ds[j] d <;> rfl
    rw [e1, e2]
    exact z
theorem pd_m1L {name : Str} {id : String} {op : D → D → Option D} (slot : Slot "list" name id) (ty : typeOf (.builtin id) = pure (.type "method_descriptor")) (mt : MtR X id (rLM X.gc op)) (num : ∀ x y z, op x y = some z → ∃ n, z = .int n) (ho : PED X p E o f) (he : PED X p E e g)
    (hbase : attributeBase o name X.env (eval o X.env) = eval o X.env := by rfl)
    (hfew : ((backTo pos (starEach (e :: []) X.env)).all (fun x => !x.1) && (backToKw pos (keywordEach [] X.env)).all (fun x => x.1.isSome)
      && decide ((e :: []).length + ([] : List Keyword).length + (if ([] : List Keyword).isEmpty then 0 else 1) < 30)) = true := by rfl)
    (hline : (apos.endLine == pos.line) = true := by rfl) (hs : starEach (e :: []) X.env = (false, eval e X.env) :: starEach [] X.env := by rfl) (hpl : (backTo pos (starEach [] X.env)).any (·.1) = false := by rfl) :
    PED X p E (.Call (.Attribute o name apos) [e] [] pos) (eM1L op f g) :=
  pe_imp (pe_bm PySem.F.plainAttrs_list slot ty mt ho (pa_cons he pa_nil hs) hbase hfew hline hs hpl) fun σ H Q ⟨F, ρ, s, pre, post⟩ => ⟨F, ρ, s, pre, Post.bind post fun d1 s1 F1 x H1 e1 x1 r1 q1 post1 => by
    cases hx : isLst d1 with
    | false => simp only [hx] at post1; exact post1.elim
    | true =>
      simp only [hx, if_true] at post1
      cases d1 with
      | list ds =>
        refine ⟨?_, F1, ρ, s1, pre.next x1 r1, Post.bind post1 fun d2 s2 F2 y H2 e2 x2 r2 q2 post2 => ?_⟩
        · cases q1 with
          | @lst a vs _ h1 h2 => exact .inl ⟨rfl, vs, ex_l x1.fh h1⟩
        · obtain ⟨z, ez, post3⟩ := ofO_post post2
          obtain ⟨n, rfl⟩ := num _ _ _ ez
          exact ⟨y, ds, d2, n, rfl, (q1.ex x2.ff).ex x2.fh, q2.ex x2.fh, ez, post_end post3 r2 _ _ _ (Ext.refl x2.fh) (.int _)⟩
      | _ => simp [isLst] at hx⟩
theorem count_num {x y z : D} (h : countD x y = some z) : ∃ n, z = .int n := by
  cases x with
  | list ds => obtain ⟨_, rfl⟩ := ifSome (show (if pln y (.list ds) = true then some (PyData.int (ds.countP fun w => PyData.eqv w y : Nat)) else none) = some z from h); exact ⟨_, rfl⟩
  | _ => cases h
theorem index_num {x y z : D} (h : indexD x y = some z) : ∃ n, z = .int n := by
  cases x with
  | list ds => obtain ⟨_, rfl⟩ := ifSome (show (if (pln y (.list ds) && decide (true ∈ ds.map fun w => PyData.eqv w y)) = true then some (PyData.int ((ds.map fun w => PyData.eqv w y).idxOf true : Nat)) else none) = some z from h); exact ⟨_, rfl⟩
  | _ => cases h
end
/-! ### int of a text -/
def intSD : List D → Option D
  | [.str a] => match PySem.intText? a with
    | some n => if decide (a.length ≤ 640) then some (.int n) else none
    | none => none
  | _ => none
theorem cd_intS {G : GC} : CallD G (fun xs H Q => ∃ a n, xs = [.str a] ∧ PySem.intText? a = some n ∧ a.length ≤ 640 ∧ Q (.int n) H) intSD := fun F H x dx z Q e hx h k => by
  match dx, h with
  | [.str a], h =>
    obtain ⟨v, rfl, hv⟩ := hx.one_inv
    have h' : (match PySem.intText? a with | some n => if decide (a.length ≤ 640) then some (PyData.int n) else none | none => none) = some z := h
    cases hi : PySem.intText? a with
    | none => rw [hi] at h'; cases h'
    | some n =>
      rw [hi] at h'
      obtain ⟨hz, rfl⟩ := ifSome h'
      exact ⟨a, n, by rw [hv.inv_str], hi, of_decide_eq_true hz, stays e k (.int _)⟩
section
variable {X : Cx} {p : Option PQ} {E : XK} {e : Expr} {es : List Expr} {h : AM} {pos q : Pos}
theorem pd_intS (hm : X.mg "int" = none) (h1 : PAD X p E (e :: es) h) (hg : Gl X "int" := by rfl) (he : starEach (e :: es) X.env = (false, eval e X.env) :: starEach es X.env := by rfl) (hpl : (backTo pos (starEach es X.env)).any (·.1) = false := by rfl) : PED X p E (.Call (.Name "int" q) (e :: es) [] pos) (eCB intSD h) :=
  pd_callTy call_int_str cd_intS hg hm (by decide +kernel) h1 (by decide) (by decide) he hpl
end
/-! ### isinstance of the handled error -/
section
variable {X : Cx} {F1 : Hp} {E : XK}
theorem pd_isK8 {x : Expr} {i : Nat} {y : Addr × Obj} {c d : Str} {dx : Option Addr} {pos q q2 : Pos} (K : ExcK8 X.gc) (hc : c ∈ excs8) (z : ExO8 X.K y c dx) (xd : XdIn F1 dx) (hy : y ∈ X.pn) (hm : X.mg "isinstance" = none) (hx : PE X x (tVar i)) (hd : d ∈ excs8 := by decide) (hg : Gl X "isinstance" := by rfl) (hgd : Gl X d := by rfl) (hdb : (d == ("__debug__" : Str)) = false := by decide)
    (hs : starEach [x, .Name d q2] X.env = (false, eval x X.env) :: starEach [.Name d q2] X.env := by rfl) (hpl : (backTo pos (starEach [.Name d q2] X.env)).any (·.1) = false := by rfl) :
    PED X (some (.fn F1)) E (.Call (.Name "isinstance" q) [x, .Name d q2] [] pos) (eIsE y.1 i (decide (c = d))) :=
  pd_isE8 (cv := .ref (He.ga X.K d)) (cu := .ref (He.ga X.K d)) hy (K.cls c hc) z xd (K.kit c hc d hd) hx (pe_glob hgd (K.gl d hd) rfl hdb) (fun u h => h) hg hm hs hpl
theorem pd_isV8 {x : Expr} {i : Nat} {y : Addr × Obj} {c : Str} {dx : Option Addr} {pos q q2 : Pos} (K : ExcK8 X.gc) (hc : c ∈ excs8) (z : ExO8 X.K y c dx) (xd : XdIn F1 dx) (hy : y ∈ X.pn) (hm : X.mg "isinstance" = none) (hmV : X.mg "ValueError" = none) (hx : PE X x (tVar i)) (hg : Gl X "isinstance" := by rfl) (hgd : Gl X "ValueError" := by rfl)
    (hs : starEach [x, .Name "ValueError" q2] X.env = (false, eval x X.env) :: starEach [.Name "ValueError" q2] X.env := by rfl) (hpl : (backTo pos (starEach [.Name "ValueError" q2] X.env)).any (·.1) = false := by rfl) :
    PED X (some (.fn F1)) E (.Call (.Name "isinstance" q) [x, .Name "ValueError" q2] [] pos) (eIsE y.1 i true) :=
  pd_isE8 (cv := .ty "ValueError") (cu := .type "ValueError") hy (K.cls c hc) z xd (K.ve c hc) hx (pe_bltn hgd hmV (by decide +kernel) rfl) (fun u h => h) hg hm hs hpl
end
/-- what a call of a function answers, or its error with its attribute -/
def tellM8 (r : R D) : R D := match r with
  | .ok d => .ok (.tuple [.str "told", d])
  | .ex e => kdM8 e
  | .un => .un
end DL
end

section
set_option Elab.async false
set_option linter.all false
set_option maxRecDepth 100000
set_option maxHeartbeats 4000000
/-! The plain law, part 0: mirrors reckoned by simp. -/
namespace DL
open PySem PySem.Spec PyProof.Rows L2
def Fl.seq (r : Fl) (k : List L → List D → Fl) : Fl := match r with
  | .nx ρ s => k ρ s
  | r => r
@[simp] theorem seq_nx {k : List L → List D → Fl} {ρ : List L} {s : List D} : (Fl.nx ρ s).seq k = k ρ s := rfl
@[simp] theorem seq_rt {k : List L → List D → Fl} {d : D} {s : List D} : (Fl.rt d s).seq k = .rt d s := rfl
@[simp] theorem seq_ex {k : List L → List D → Fl} {e : Exn} : (Fl.ex e).seq k = .ex e := rfl
@[simp] theorem seq_un {k : List L → List D → Fl} : Fl.un.seq k = .un := rfl
@[simp] theorem seq_bk {k : List L → List D → Fl} {ρ : List L} {s : List D} : (Fl.bk ρ s).seq k = .bk ρ s := rfl
@[simp] theorem seq_ct {k : List L → List D → Fl} {ρ : List L} {s : List D} : (Fl.ct ρ s).seq k = .ct ρ s := rfl
/-- behind a loop's body -/
def Fl.lp (r : Fl) (k : List L → List D → Fl) : Fl := match r with
  | .nx ρ s => k ρ s
  | .ct ρ s => k ρ s
  | .bk ρ s => .nx ρ s
  | r => r
@[simp] theorem lp_nx {k : List L → List D → Fl} {ρ : List L} {s : List D} : (Fl.nx ρ s).lp k = k ρ s := rfl
@[simp] theorem lp_rt {k : List L → List D → Fl} {d : D} {s : List D} : (Fl.rt d s).lp k = .rt d s := rfl
@[simp] theorem lp_ex {k : List L → List D → Fl} {e : Exn} : (Fl.ex e).lp k = .ex e := rfl
@[simp] theorem lp_un {k : List L → List D → Fl} : Fl.un.lp k = .un := rfl
@[simp] theorem lp_bk {k : List L → List D → Fl} {ρ : List L} {s : List D} : (Fl.bk ρ s).lp k = .nx ρ s := rfl
@[simp] theorem lp_ct {k : List L → List D → Fl} {ρ : List L} {s : List D} : (Fl.ct ρ s).lp k = k ρ s := rfl
def Fl.out (r : Fl) : R D := match r with
  | .nx _ _ => .ok .none
  | .rt d _ => .ok d
  | .ex e => .ex e
  | _ => .un
@[simp] theorem out_nx {ρ : List L} {s : List D} : (Fl.nx ρ s).out = .ok .none := rfl
@[simp] theorem out_rt {d : D} {s : List D} : (Fl.rt d s).out = .ok d := rfl
@[simp] theorem out_ex {e : Exn} : (Fl.ex e).out = .ex e := rfl
def Fl.outS (r : Fl) : R (D × List D) := match r with
  | .nx _ s => .ok (.none, s)
  | .rt d s => .ok (d, s)
  | .ex e => .ex e
  | _ => .un
@[simp] theorem outS_nx {ρ : List L} {s : List D} : (Fl.nx ρ s).outS = .ok (.none, s) := rfl
@[simp] theorem outS_rt {d : D} {s : List D} : (Fl.rt d s).outS = .ok (d, s) := rfl
@[simp] theorem outS_ex {e : Exn} : (Fl.ex e).outS = .ex e := rfl
section
variable {f g h a b c : EM} {t u : TM} {as : AM} {ρ : Rho} {ρl : List L} {s : List D} {A B : SM} {ms : List Nat} {i j n : Nat} {d e : D} {op op' : D → D → Option D}
@[simp] theorem s_eC : eC d ρ s = .ok (d, s) := rfl
@[simp] theorem s_eVar : eVar i ρ s = match ρ[i]? with | some (some d) => .ok (d, s) | _ => .un := rfl
@[simp] theorem s_eOp : eOp op a b ρ s = (a ρ s).bind fun z => (b ρ z.2).bind fun y => ofO (op z.1 y.1) y.2 := rfl
@[simp] theorem s_eUn {o : D → Option D} : eUn o a ρ s = (a ρ s).bind fun z => ofO (o z.1) z.2 := rfl
@[simp] theorem s_aNil : aNil ρ s = .ok ([], s) := rfl
@[simp] theorem s_aCons : aCons a as ρ s = (a ρ s).bind fun z => (as ρ z.2).bind fun y => .ok (z.1 :: y.1, y.2) := rfl
@[simp] theorem s_eIf : eIf t a b ρ s = (t ρ s).bind fun z => if z.1 = true then a ρ z.2 else b ρ z.2 := rfl
@[simp] theorem s_tE : tE a ρ s = (a ρ s).bind fun z => ofO (isB z.1) z.2 := rfl
@[simp] theorem s_tAn : tAn t u ρ s = (t ρ s).bind fun z => if z.1 = true then u ρ z.2 else .ok (false, z.2) := rfl
@[simp] theorem s_tOrr : tOrr t u ρ s = (t ρ s).bind fun z => if z.1 = true then .ok (true, z.2) else u ρ z.2 := rfl
@[simp] theorem s_tNo : tNo t ρ s = (t ρ s).bind fun z => .ok (!z.1, z.2) := rfl
@[simp] theorem s_eAnd : eAnd a b ρ s = (a ρ s).bind fun z => (ofO (isB z.1) z.2).bind fun y => if y.1 = true then b ρ y.2 else .ok (.bool false, y.2) := rfl
@[simp] theorem s_eOr : eOr a b ρ s = (a ρ s).bind fun z => (ofO (isB z.1) z.2).bind fun y => if y.1 = true then .ok (.bool true, y.2) else b ρ y.2 := rfl
@[simp] theorem s_eNot : eNot a ρ s = (a ρ s).bind fun z => (ofO (isB z.1) z.2).bind fun y => .ok (.bool (!y.1), y.2) := rfl
@[simp] theorem s_eChain : eChain op op' a b c ρ s = (a ρ s).bind fun x => (b ρ x.2).bind fun y => (ofO (op x.1 y.1) y.2).bind fun k => (ofO (isB k.1) k.2).bind fun l => if l.1 = true then (c ρ l.2).bind fun z => ofO (op' y.1 z.1) z.2 else .ok (.bool false, l.2) := rfl
@[simp] theorem s_eCall {m : List D → R D} : eCall m as ρ s = (as ρ s).bind fun z => (m z.1).bind fun d => .ok (d, z.2) := rfl
@[simp] theorem s_eCB {o : List D → Option D} : eCB o as ρ s = (as ρ s).bind fun z => ofO (o z.1) z.2 := rfl
@[simp] theorem s_eTupS : eTupS as ρ s = (as ρ s).bind fun z => ofO (if small z.1.length then some (.tuple z.1) else none) z.2 := rfl
@[simp] theorem s_eLstS : eLstS as ρ s = (as ρ s).bind fun z => ofO (if small z.1.length then some (.list z.1) else none) z.2 := rfl
@[simp] theorem s_isB {k : Bool} : isB (.bool k) = some k := rfl
@[simp] theorem s_add {x y : Int} : addD (.int x) (.int y) = some (.int (x + y)) := rfl
@[simp] theorem s_sub {x y : Int} : subD (.int x) (.int y) = some (.int (x - y)) := rfl
@[simp] theorem s_cmp {k : Int → Int → Bool} {x y : Int} : cmpD k (.int x) (.int y) = some (.bool (k x y)) := rfl
@[simp] theorem s_is : isD d .none = some (.bool (isNone d)) := rfl
@[simp] theorem s_isnt : isntD d .none = some (.bool (!isNone d)) := rfl
@[simp] theorem s_isNone0 : isNone .none = true := rfl
@[simp] theorem s_isNone1 {x : Int} : isNone (.int x) = false := rfl
@[simp] theorem s_isNone2 {x : List D} : isNone (.tuple x) = false := rfl
@[simp] theorem s_isNone3 {x : Bool} : isNone (.bool x) = false := rfl
@[simp] theorem s_isNone4 {x : List D} : isNone (.list x) = false := rfl
@[simp] theorem s_isNone5 {x : Str} : isNone (.str x) = false := rfl
@[simp] theorem s_len1 {x : List D} : lenD [.list x] = some (.int x.length) := rfl
@[simp] theorem s_len2 {x : List D} : lenD [.tuple x] = some (.int x.length) := rfl
@[simp] theorem s_ix1 {x : List D} {k : Int} : ixD (.list x) (.int k) = atI x k := rfl
@[simp] theorem s_ix2 {x : List D} {k : Int} : ixD (.tuple x) (.int k) = atI x k := rfl
theorem atI_ofNat {α : Type} {x : List α} {k : Nat} : atI x (k : Int) = x[k]? := by
  unfold atI ixN
  rw [if_pos (Int.natCast_nonneg k)]
  by_cases h : (k : Int) < x.length
  · rw [if_pos h, Int.toNat_natCast]
    rfl
  · rw [if_neg h]
    exact (List.getElem?_eq_none (by omega)).symm
@[simp] theorem s_at0 {α : Type} {x : List α} : atI x 0 = x[0]? := atI_ofNat (k := 0)
@[simp] theorem s_at1 {α : Type} {x : List α} : atI x 1 = x[1]? := atI_ofNat (k := 1)
@[simp] theorem s_at2 {α : Type} {x : List α} : atI x 2 = x[2]? := atI_ofNat (k := 2)
@[simp] theorem s_at3 {α : Type} {x : List α} : atI x 3 = x[3]? := atI_ofNat (k := 3)
@[simp] theorem s_atN {α : Type} {x : List α} {k : Nat} : atI x (k : Int) = x[k]? := atI_ofNat
theorem s_max2 {x y : Int} : maxD [.int x, .int y] = some (.int (max x y)) := by
  show some (PyData.int (if y > x then y else x)) = _
  congr 2
  omega
theorem s_min2 {x y : Int} : minD [.int x, .int y] = some (.int (min x y)) := by
  show some (PyData.int (if y < x then y else x)) = _
  congr 2
  omega
@[simp] theorem s_max2' {x y : Int} : maxD [.int x, .int y] = some (.int (max x y)) := s_max2
@[simp] theorem s_min2' {x y : Int} : minD [.int x, .int y] = some (.int (min x y)) := s_min2
/-! statements -/
@[simp] theorem s_gSeq : gSeq A B ρl s = (A ρl s).seq B := by
  unfold gSeq
  cases A ρl s <;> rfl
theorem s_loop {tg : TgM} {r : List D} : loopF tg A (d :: r) ρl s = match tg d ρl with | none => .un | some ρ1 => (A ρ1 s).lp (loopF tg A r) := by
  rw [loopF]
  cases tg d ρl with
  | none => rfl
  | some ρ1 => simp only; cases A ρ1 s <;> rfl
theorem whileF_succ {cc : TM} : whileF ms cc A (n + 1) ρl s = exprS (cc (vw (fz ms ρl)) s) fun k s' => if k = true then (A ρl s').lp (whileF ms cc A n) else .nx ρl s' := by
  rw [whileF]
  congr 1
@[simp] theorem s_gWhile {fu : Nat} {cc : TM} : gWhile fu ms cc A ρl s = whileF ms cc A fu ρl s := rfl
@[simp] theorem s_gFor {ww : WM} {tg : TgM} : gFor ms ww tg A ρl s = exprS (ww (vw (fz ms ρl)) s) fun xs s' => loopF tg A xs (fz ms ρl) s' := rfl
theorem s_runF {ds : List D} : runF A n ds = (A (ds.map L.d ++ List.replicate (n - ds.length) L.un) []).out := by
  unfold runF
  cases A (ds.map L.d ++ List.replicate (n - ds.length) L.un) [] <;> rfl
theorem s_runS {gg : Addr → SM} {q : Addr} {ds : List D} : runS gg n q ds s = (gg q (ds.map L.d ++ List.replicate (n - ds.length) L.un) s).outS := by
  unfold runS
  cases gg q (ds.map L.d ++ List.replicate (n - ds.length) L.un) s <;> rfl
@[simp] theorem s_gNext : gNext ρl s = .nx ρl s := rfl
@[simp] theorem s_gRet : gRet ms f ρl s = exprS (f (vw (fz ms ρl)) s) fun d s' => .rt d s' := rfl
@[simp] theorem s_gIf : gIf ms t A B ρl s = exprS (t (vw (fz ms ρl)) s) fun k s' => if k = true then A ρl s' else B ρl s' := rfl
@[simp] theorem s_gDrop : gDrop ms f ρl s = exprS (f (vw (fz ms ρl)) s) fun _ s' => .nx ρl s' := rfl
@[simp] theorem s_gRaise {x : Str} : gRaise x ρl s = .ex ⟨x, none⟩ := rfl
@[simp] theorem s_gBrk : gBrk ρl s = .bk ρl s := rfl
@[simp] theorem s_gCont : gCont ρl s = .ct ρl s := rfl
@[simp] theorem s_gAsg {tg : TgM} : gAsg ms f tg ρl s = exprS (f (vw (fz ms ρl)) s) fun d s' => flO (tg d (if flat d then ρl else fz ms ρl)) s' := rfl
@[simp] theorem s_gAsgL : gAsgL ms as i ρl s = exprS (as (vw (fz ms ρl)) s) fun ds s' => if small ds.length then .nx ((fz ms ρl).set i (.own (.lst ds))) s' else .un := rfl
@[simp] theorem s_gAsgK : gAsgK i ρl s = .nx (ρl.set i (.own (.dct []))) s := rfl
@[simp] theorem s_tgN : tgN i d ρl = some (ρl.set i (.d d)) := rfl
@[simp] theorem s_tgT {r : TgsM} {x : List D} : tgT n r (.tuple x) ρl = if x.length = n then r x ρl else none := rfl
@[simp] theorem s_tgsNil : tgsNil [] ρl = some ρl := rfl
@[simp] theorem s_tgsCons {tg : TgM} {r : TgsM} {x : List D} : tgsCons tg r (d :: x) ρl = (tg d ρl).bind (r x) := rfl
@[simp] theorem s_fz0 : fz [] ρl = ρl := List.ext_getElem? fun k => by
  rw [fz_get]
  cases ρl[k]? with
  | none => rfl
  | some l => cases l <;> rfl
@[simp] theorem s_vw0 : vw [] = [] := rfl
@[simp] theorem s_vw1 {x : D} : vw (.d x :: ρl) = some x :: vw ρl := rfl
@[simp] theorem s_vw2 : vw (.un :: ρl) = none :: vw ρl := rfl
@[simp] theorem s_vw3 {x : Cell} : vw (.own x :: ρl) = none :: vw ρl := rfl
@[simp] theorem s_small {k : Nat} : small k = decide (k ≤ 1000000) := rfl
@[simp] theorem s_gApp : gApp ms i f ρl s = match ρl[i]? with
  | some (.own (.lst xs)) => exprS (f (vw (fz ms ρl)) s) fun d s' => if small (xs.length + 1) && !ms.contains i then .nx ((if flat d then ρl else fz ms ρl).set i (.own (.lst (xs ++ [d])))) s' else .un
  | _ => .un := rfl
@[simp] theorem s_gPar {F : IM} {js : List Nat} : gPar ms F js ρl s = exprS (F (vw (fz ms ρl)) s) fun is s' => if is.length = js.length then .nx (setI js is (if is.all Itm.light then ρl else fz ms ρl)) s' else .un := rfl
@[simp] theorem s_iNil : iNil ρ s = .ok ([], s) := rfl
@[simp] theorem s_iD {r : IM} : iD' f r ρ s = (f ρ s).bind fun z => (r ρ z.2).bind fun y => .ok (.d z.1 :: y.1, y.2) := rfl
@[simp] theorem s_iL {r : IM} : iL0 r ρ s = (r ρ s).bind fun y => .ok (.own (.lst []) :: y.1, y.2) := rfl
@[simp] theorem s_setI0 {is : List Itm} : setI [] is ρl = ρl := by cases is <;> rfl
@[simp] theorem s_setI1 {x : D} {js : List Nat} {is : List Itm} : setI (i :: js) (.d x :: is) ρl = setI js is (ρl.set i (.d x)) := rfl
@[simp] theorem s_setI2 {x : Cell} {js : List Nat} {is : List Itm} : setI (i :: js) (.own x :: is) ρl = setI js is (ρl.set i (.own x)) := rfl
@[simp] theorem s_isi1 {k : Int} {ty : Ty} : isiD ty (.int k) = some (.bool (isiB (.int k) ty)) := rfl
end
theorem okN_of {i : Int} (h : i.natAbs < 10 ^ 60) : okN i = true := by
  unfold okN big
  refine decide_eq_true (Nat.lt_trans h ?_)
  calc 10 ^ 60 < 2 ^ 200 := by decide
    _ ≤ 2 ^ 4000 := Nat.pow_le_pow_right (by decide) (by decide)
theorem s_mul {x y : Int} (hx : x.natAbs < 10 ^ 60) (hy : y.natAbs < 10 ^ 60) : mulD (.int x) (.int y) = some (.int (x * y)) := by
  show (if okN x && okN y then some (PyData.int (x * y)) else none) = _
  rw [okN_of hx, okN_of hy]
  rfl
theorem s_div {x y : Int} (h0 : 0 < y) (hy : y.natAbs < 10 ^ 60) : fdivD (.int x) (.int y) = some (.int (x / y)) := by
  show (if decide (0 < y) && okN y then some (PyData.int (x / y)) else _) = _
  rw [okN_of hy, decide_eq_true h0]
  rfl
theorem s_mod {x y : Int} (h0 : 0 < y) : modD (.int x) (.int y) = some (.int (x % y)) := by
  show (if decide (0 < y) then some (PyData.int (x % y)) else _) = _
  rw [decide_eq_true h0]
  rfl
theorem s_eqI {x y : Int} : eqD (.int x) (.int y) = some (.bool (decide (x = y))) := by
  simp [eqD, pln, shal, PyData.depth, PyData.plain, PyData.eqv, beq_dec]
theorem s_neI {x y : Int} : neD (.int x) (.int y) = some (.bool (!decide (x = y))) := by
  simp [neD, pln, shal, PyData.depth, PyData.plain, PyData.eqv, beq_dec]
theorem kstep {A B : SM} {ρ ρ' : List L} {s s' : List D} (h : A ρ s = .nx ρ' s') : gSeq A B ρ s = B ρ' s' := by rw [s_gSeq, h]; rfl
@[simp] theorem s_frz0 {ms : List Nat} {i : Nat} {x : D} : frz ms i (.d x) = .d x := rfl
@[simp] theorem s_frz1 {ms : List Nat} {i : Nat} : frz ms i .un = .un := rfl
@[simp] theorem s_frz2 {ms : List Nat} {i : Nat} {c : Cell} : frz ms i (.own c) = if ms.contains i then .d c.data else .own c := rfl
@[simp] theorem s_cd1 {x : List D} : (Cell.lst x).data = .list x := rfl
@[simp] theorem s_cd2 {x : List (D × D)} : (Cell.dct x).data = .dict x := rfl
theorem s_fz {ms : List Nat} {ρ : List L} : fz ms ρ = ρ.mapIdx (frz ms) := rfl
@[simp] theorem s_flat1 {i : Int} : flat (.int i) = true := rfl
@[simp] theorem s_flat2 {i : List D} : flat (.tuple i) = false := rfl
@[simp] theorem s_flat3 : flat .none = true := rfl
@[simp] theorem s_flat4 {i : List D} : flat (.list i) = false := rfl
@[simp] theorem s_light1 {x : D} : Itm.light (.d x) = flat x := rfl
end DL
end

section
set_option Elab.async false
set_option linter.all false
set_option maxRecDepth 100000
set_option maxHeartbeats 4000000
namespace Lw
open PySem PySem.Spec PyProof.Rows L2 DL
def fuel : Nat := 2 ^ 200
def tab_FIGURES : List (Str × Int) := [("0", 0), ("1", 1), ("2", 2), ("3", 3), ("4", 4)]
def tab_STEPS : List (Str × Int) := [("-2", -2), ("-1", -1), ("0", 0), ("1", 1), ("2", 2)]
def g_is_int : SM := (gRet [] (eAnd (eUn (isiD .int) (eVar 0)) (eAnd (eNot (eUn (isiD .bool) (eVar 0))) (eChain leD leD (eVar 1) (eVar 0) (eVar 2)))))
def m_is_int : List D → R D := runF g_is_int 3
def g_is_action : SM := (gSeq (gIf [] (tE (eOp isD (eVar 0) (eC .none))) (gRet [] (eC (.bool true))) gNext)
  (gSeq (gIf [] (tOrr (tNo (tE (eUn (isiD .tuple) (eVar 0)))) (tE (eOp neD (eCB lenD (aCons (eVar 0) aNil)) (eC (.int 2))))) (gRet [] (eC (.bool false))) gNext)
  (gRet [] (eAnd (eCall m_is_int (aCons (eOp ixD (eVar 0) (eC (.int 0))) (aCons (eOp subD (eC (.int 0)) (eC (.int 2))) (aCons (eC (.int 2)) aNil)))) (eCall m_is_int (aCons (eOp ixD (eVar 0) (eC (.int 1))) (aCons (eC (.int 0)) (aCons (eOp subD (eVar 1) (eC (.int 1))) aNil))))))))
def m_is_action : List D → R D := runF g_is_action 2
def g_is_line : SM := (gRet [] (eAnd (eUn (isiD .tuple) (eVar 0)) (eAnd (eOp eqD (eCB lenD (aCons (eVar 0) aNil)) (eC (.int 4))) (eCB allD (aCons (eLc (wSeq (eVar 0)) [2] (rtN 2) tYesD (eCall m_is_action (aCons (eVar 2) (aCons (eVar 1) aNil)))) aNil)))))
def m_is_line : List D → R D := runF g_is_line 3
def g_is_notch : SM := (gSeq (gIf [] (tOrr (tNo (tE (eUn (isiD .tuple) (eVar 0)))) (tOrr (tE (eOp neD (eCB lenD (aCons (eVar 0) aNil)) (eC (.int 2)))) (tNo (tE (eUn (isiD .str) (eOp ixD (eVar 0) (eC (.int 0)))))))) (gRet [] (eC (.bool false))) gNext)
  (gRet [] (eAnd (eOp inD (eOp ixD (eVar 0) (eC (.int 0))) (eTupS (aCons (eC (.str "head")) (aCons (eC (.str "tail")) aNil)))) (eCall m_is_int (aCons (eOp ixD (eVar 0) (eC (.int 1))) (aCons (eC (.int 1)) (aCons (eC (.int 4)) aNil)))))))
def m_is_notch : List D → R D := runF g_is_notch 1
def g_is_plan : SM := (gSeq (gIf [] (tOrr (tNo (tE (eUn (isiD .tuple) (eVar 0)))) (tE (eOp neD (eCB lenD (aCons (eVar 0) aNil)) (eC (.int 2))))) (gRet [] (eC (.bool false))) gNext)
  (gSeq (gAsg [] (eVar 0) (tgT 2 (tgsCons (tgN 1) (tgsCons (tgN 2) tgsNil))))
  (gSeq (gIf [] (tOrr (tNo (tE (eUn (isiD .tuple) (eVar 1)))) (tNo (tE (eChain leD leD (eC (.int 1)) (eCB lenD (aCons (eVar 1) aNil)) (eC (.int 4)))))) (gRet [] (eC (.bool false))) gNext)
  (gSeq (gIf [] (tNo (tE (eCB allD (aCons (eLc (wSeq (eVar 1)) [5] (rtN 5) tYesD (eCall m_is_line (aCons (eVar 5) (aCons (eCB lenD (aCons (eVar 1) aNil)) aNil)))) aNil)))) (gRet [] (eC (.bool false))) gNext)
  (gSeq (gIf [] (tOrr (tNo (tE (eUn (isiD .tuple) (eVar 2)))) (tOrr (tE (eOp gtD (eCB lenD (aCons (eVar 2) aNil)) (eC (.int 2)))) (tNo (tE (eCB allD (aCons (eLc (wSeq (eVar 2)) [3] (rtN 3) tYesD (eCall m_is_notch (aCons (eVar 3) aNil))) aNil)))))) (gRet [] (eC (.bool false))) gNext)
  (gRet [] (eCB allD (aCons (eLc (wZip (aCons (eVar 2) (aCons (eSl (eVar 2) (oSome (eC (.int 1))) oNone) aNil))) [3, 4] (rtT 2 (rtsCons (rtN 3) (rtsCons (rtN 4) rtsNil))) tYesD (eOp ltPD (eVar 3) (eVar 4))) aNil))))))))
def m_is_plan : List D → R D := runF g_is_plan 6
def g_need_plan : SM := (gIf [] (tNo (tE (eCall m_is_plan (aCons (eVar 0) aNil)))) (gRaise "InvalidPlan") gNext)
def m_need_plan : List D → R D := runF g_need_plan 1
def g_word_of : SM := (gRet [] (eIf (tE (eOp isD (eVar 0) (eC .none))) (eC (.str "-")) (eOp addD (eOp addD (eCB strcD (aCons (eOp ixD (eVar 0) (eC (.int 0))) aNil)) (eC (.str ":"))) (eCB strcD (aCons (eOp ixD (eVar 0) (eC (.int 1))) aNil)))))
def m_word_of : List D → R D := runF g_word_of 1
def g_text_of : SM := (gSeq (gAsg [] (eLc (wSeq (eOp ixD (eVar 0) (eC (.int 0)))) [2] (rtN 2) tYesD (eOp addD (eC (.str "line ")) (eJoin (eC (.str " ")) (eLc (wSeq (eVar 2)) [5] (rtN 5) tYesD (eCall m_word_of (aCons (eVar 5) aNil)))))) (tgN 1))
  (gRet [] (eJoin (eC (.str "\n")) (eOp addD (eVar 1) (eLc (wSeq (eOp ixD (eVar 0) (eC (.int 1)))) [3, 4] (rtT 2 (rtsCons (rtN 3) (rtsCons (rtN 4) rtsNil))) tYesD (eOp addD (eOp addD (eOp addD (eC (.str "notch ")) (eVar 3)) (eC (.str " "))) (eCB strcD (aCons (eVar 4) aNil))))))))
def m_text_of : List D → R D := runF g_text_of 6
def g_action_in : SM := (gSeq (gIf [] (tE (eOp eqD (eVar 0) (eC (.str "-")))) (gRet [] (eC .none)) gNext)
  (gSeq (gAsg [] (eSplit (eVar 0) (eC (.str ":"))) (tgN 1))
  (gSeq (gIf [] (tE (eOp neD (eCB lenD (aCons (eVar 1) aNil)) (eC (.int 2)))) (gRet [] (eTupS aNil)) gNext)
  (gRet [] (eTupS (aCons (eUn (getTD tab_STEPS) (eOp ixD (eVar 1) (eC (.int 0)))) (aCons (eUn (getTD tab_FIGURES) (eOp ixD (eVar 1) (eC (.int 1)))) aNil)))))))
def m_action_in : List D → R D := runF g_action_in 2
def g_line_in : SM := (gSeq (gAsg [] (eSplit (eVar 0) (eC (.str " "))) (tgN 1))
  (gSeq (gIf [] (tE (eOp eqD (eOp ixD (eVar 1) (eC (.int 0))) (eC (.str "line")))) (gSeq (gAsg [] (eCB tupleD (aCons (eLc (wSeq (eSl (eVar 1) (oSome (eC (.int 1))) oNone)) [3] (rtN 3) tYesD (eCall m_action_in (aCons (eVar 3) aNil))) aNil)) (tgN 2))
  (gRet [] (eIf (tE (eCall m_is_line (aCons (eVar 2) (aCons (eC (.int 4)) aNil)))) (eTupS (aCons (eC (.str "line")) (aCons (eVar 2) aNil))) (eC .none)))) gNext)
  (gSeq (gIf [] (tAn (tE (eOp eqD (eOp ixD (eVar 1) (eC (.int 0))) (eC (.str "notch")))) (tE (eOp eqD (eCB lenD (aCons (eVar 1) aNil)) (eC (.int 3))))) (gSeq (gAsg [] (eTupS (aCons (eOp ixD (eVar 1) (eC (.int 1))) (aCons (eUn (getTD tab_FIGURES) (eOp ixD (eVar 1) (eC (.int 2)))) aNil))) (tgN 2))
  (gRet [] (eIf (tE (eCall m_is_notch (aCons (eVar 2) aNil))) (eTupS (aCons (eC (.str "notch")) (aCons (eVar 2) aNil))) (eC .none)))) gNext)
  (gRet [] (eC .none)))))
def m_line_in : List D → R D := runF g_line_in 4
def g_read_so : SM := (gSeq (gIf [] (tNo (tE (eUn (isiD .str) (eVar 0)))) (gRaiseX [] "InvalidText" "line" (eC (.int 0))) gNext)
  (gSeq (gAsg [] (eLc (wSeq (eSplit (eVar 0) (eC (.str "\n")))) [4] (rtN 4) tYesD (eCall m_line_in (aCons (eVar 4) aNil))) (tgN 1))
  (gSeq (gIf [] (tE (eOp inD (eC .none) (eVar 1))) (gRaiseX [] "InvalidText" "line" (eOp addD (eM1L indexD (eVar 1) (eC .none)) (eC (.int 1)))) gNext)
  (gSeq (gAsg [] (eCB tupleD (aCons (eLc (wSeq (eVar 1)) [5, 6] (rtT 2 (rtsCons (rtN 5) (rtsCons (rtN 6) rtsNil))) (tE (eOp eqD (eVar 5) (eC (.str "line")))) (eVar 6)) aNil)) (tgN 2))
  (gSeq (gAsg [] (eTupS (aCons (eVar 2) (aCons (eCB tupleD (aCons (eLc (wSeq (eVar 1)) [5, 6] (rtT 2 (rtsCons (rtN 5) (rtsCons (rtN 6) rtsNil))) (tE (eOp eqD (eVar 5) (eC (.str "notch")))) (eVar 6)) aNil)) aNil))) (tgN 3))
  (gSeq (gIf [] (tOrr (tE (eOp neD (eLc (wSeq (eSl (eVar 1) oNone (oSome (eCB lenD (aCons (eVar 2) aNil))))) [5, 6] (rtT 2 (rtsCons (rtN 5) (rtsCons (rtN 6) rtsNil))) tYesD (eVar 5)) (eOp mulLD (eLstS (aCons (eC (.str "line")) aNil)) (eCB lenD (aCons (eVar 2) aNil))))) (tNo (tE (eCall m_is_plan (aCons (eVar 3) aNil))))) (gRaiseX [] "InvalidText" "line" (eOp addD (eCB lenD (aCons (eVar 1) aNil)) (eC (.int 1)))) gNext)
  (gRet [] (eVar 3))))))))
def m_read_so : List D → R D := runF g_read_so 7
def g_plan_text : SM := (gSeq (gDrop [] (eCall m_need_plan (aCons (eVar 0) aNil)))
  (gRet [] (eCall m_text_of (aCons (eVar 0) aNil))))
def m_plan_text : List D → R D := runF g_plan_text 1
def g_read_plan : SM := (gRet [] (eCall m_read_so (aCons (eVar 0) aNil)))
def m_read_plan : List D → R D := runF g_read_plan 1
def g__law_spool : SM := (gSeqN (gAsg [] (eOp addD (eOp mulD (eC (.int 29327)) (eVar 1)) (eC (.int 61))) (tgN 2))
  (gSeqN (gIf [] (tE (eOp ltD (eVar 1) (eCB lenD (aCons (eVar 0) aNil)))) (gAsg [] (eOp modD (eCB absD (aCons (eCB intD (aCons (eOp ixD (eVar 0) (eVar 1)) aNil)) aNil)) (eOp mulD (eOp mulD (eOp mulD (eOp powD (eC (.int 10)) (eC (.int 60))) (eOp powD (eC (.int 10)) (eC (.int 60)))) (eOp powD (eC (.int 10)) (eC (.int 60)))) (eOp powD (eC (.int 10)) (eC (.int 60))))) (tgN 2)) (gIf [] (tE (eOp gtD (eCB lenD (aCons (eVar 0) aNil)) (eC (.int 0)))) (gAsg [] (eOp addD (eVar 2) (eOp modD (eCB absD (aCons (eCB intD (aCons (eOp ixD (eVar 0) (eC (.int 0))) aNil)) aNil)) (eC (.int 1000333)))) (tgN 2)) gNext))
  (gRetL (aCons (eIf (tE (eOp geD (eVar 2) (eOp powD (eC (.int 10)) (eC (.int 18))))) (eVar 2) (eC (.int 0))) (aCons (eOp addD (eOp modD (eCB intD (aCons (eOp addD (eOp addD (eOp mulD (eOp modD (eVar 2) (eC (.int 2147483059))) (eC (.int 13))) (eOp mulD (eC (.int 71)) (eVar 1))) (eC (.int 29))) aNil)) (eC (.int 2147483059))) (eC (.int 1))) aNil)))))
def m__law_spool : List D → R D := runF g__law_spool 3
def g__law_wind (a : Addr) : SM := (gSeq (gIf [] (tE (eOp gtD (eSpGet a 0 0) (eC (.int 0)))) (gSeq (gAsg [] (eOp modD (eCB intD (aCons (eSpGet a 0 0) aNil)) (eVar 1)) (tgN 2))
  (gSeq (gSpSet a [] 0 0 (eOp fdivD (eSpGet a 0 0) (eVar 1)))
  (gRet [] (eVar 2)))) gNext)
  (gSeq (gAsg [] (eTupS (aCons (eC (.int 0)) (aCons (eC (.int 1)) aNil))) (tgT 2 (tgsCons (tgN 2) (tgsCons (tgN 3) tgsNil))))
  (gSeq (gWhile fuel [] (tOrr (tE (eOp ltD (eVar 3) (eVar 1))) (tE (eOp eqD (eVar 3) (eC (.int 1)))))
  (gSeq (gSpSet a [] 0 1 (eOp modD (eCB intD (aCons (eOp addD (eOp mulD (eSpGet a 0 1) (eC (.int 25931))) (eC (.int 79))) aNil)) (eC (.int 2147483059))))
  (gSeq (gAsg [] (eOp addD (eOp mulD (eVar 2) (eC (.int 8192))) (eOp modD (eCB intD (aCons (eOp fdivD (eSpGet a 0 1) (eC (.int 65609))) aNil)) (eC (.int 8192)))) (tgN 2))
  (gAsg [] (eOp mulD (eVar 3) (eC (.int 8192))) (tgN 3)))))
  (gRet [] (eOp modD (eCB intD (aCons (eVar 2) aNil)) (eVar 1))))))
def m__law_wind : MS := runS g__law_wind 4
def g__law_any (a : Addr) : SM := (gRet [] (eOp ixD (eVar 1) (eCallS a m__law_wind (aCons (eVar 0) (aCons (eCB lenD (aCons (eVar 1) aNil)) aNil)))))
def m__law_any : MS := runS g__law_any 2
def g__law_deed (a : Addr) : SM := (gSeq (gIf [] (tE (eOp eqD (eCallS a m__law_wind (aCons (eVar 0) (aCons (eVar 3) aNil))) (eC (.int 0)))) (gRet [] (eC .none)) gNext)
  (gRet [] (eTupS (aCons (eCallS a m__law_any (aCons (eVar 0) (aCons (eVar 2) aNil))) (aCons (eCallS a m__law_wind (aCons (eVar 0) (aCons (eVar 1) aNil))) aNil)))))
def m__law_deed : MS := runS g__law_deed 4
def g__law_row (a : Addr) : SM := (gSeq (gAsg [] (eCallS a m__law_any (aCons (eVar 0) (aCons (eLstS (aCons (eLstS (aCons (eC (.int 1)) (aCons (eC (.int 1)) (aCons (eC (.int 2)) aNil)))) (aCons (eLstS (aCons (eUn negD (eC (.int 1))) (aCons (eUn negD (eC (.int 1))) (aCons (eUn negD (eC (.int 2))) aNil)))) (aCons (eLstS (aCons (eC (.int 1)) (aCons (eC (.int 2)) (aCons (eUn negD (eC (.int 1))) aNil)))) (aCons (eLstS (aCons (eC (.int 0)) (aCons (eC (.int 1)) (aCons (eUn negD (eC (.int 1))) aNil)))) (aCons (eLstS (aCons (eC (.int 2)) (aCons (eC (.int 2)) (aCons (eC (.int 1)) (aCons (eUn negD (eC (.int 1))) aNil))))) aNil)))))) aNil))) (tgN 2))
  (gSeq (gAsg [] (eCallS a m__law_deed (aCons (eVar 0) (aCons (eVar 1) (aCons (eLstS (aCons (eC (.int 1)) (aCons (eC (.int 1)) (aCons (eC (.int 2)) (aCons (eC (.int 2)) (aCons (eC (.int 0)) aNil)))))) (aCons (eC (.int 12)) aNil))))) (tgN 3))
  (gSeq (gAsg [] (eCallS a m__law_deed (aCons (eVar 0) (aCons (eVar 1) (aCons (eLstS (aCons (eUn negD (eC (.int 1))) (aCons (eUn negD (eC (.int 1))) (aCons (eUn negD (eC (.int 2))) (aCons (eUn negD (eC (.int 2))) (aCons (eC (.int 0)) aNil)))))) (aCons (eC (.int 7)) aNil))))) (tgN 4))
  (gRet [] (eTupS (aCons (eVar 3) (aCons (eCallS a m__law_deed (aCons (eVar 0) (aCons (eVar 1) (aCons (eVar 2) (aCons (eC (.int 60)) aNil))))) (aCons (eVar 4) (aCons (eCallS a m__law_deed (aCons (eVar 0) (aCons (eVar 1) (aCons (eLstS (aCons (eC (.int 1)) (aCons (eC (.int 2)) (aCons (eUn negD (eC (.int 1))) (aCons (eUn negD (eC (.int 2))) aNil))))) (aCons (eC (.int 20)) aNil))))) aNil)))))))))
def m__law_row : MS := runS g__law_row 5
def g__law_plot (a : Addr) : SM := (gSeq (gPar [] (iD' (eOp addD (eC (.int 1)) (eCallS a m__law_wind (aCons (eVar 0) (aCons (eC (.int 4)) aNil)))) (iL0 iNil)) [1, 2])
  (gSeq (gFor [] (wRng rng1 (aCons (eCallS a m__law_wind (aCons (eVar 0) (aCons (eC (.int 3)) aNil))) aNil)) (tgN 3)
  (gApp [] 2 (eTupS (aCons (eCallS a m__law_any (aCons (eVar 0) (aCons (eLstS (aCons (eC (.str "head")) (aCons (eC (.str "tail")) aNil))) aNil))) (aCons (eOp addD (eC (.int 1)) (eCallS a m__law_wind (aCons (eVar 0) (aCons (eC (.int 4)) aNil)))) aNil)))))
  (gRet [2] (eTupS (aCons (eCB tupleD (aCons (eLc (wRng rng1 (aCons (eVar 1) aNil)) [3] (rtN 3) tYesD (eCallS a m__law_row (aCons (eVar 0) (aCons (eVar 1) aNil)))) aNil)) (aCons (eCB tupleD (aCons (eUn sortSetD (eVar 2)) aNil)) aNil))))))
def m__law_plot : MS := runS g__law_plot 4
def g__law_is_whole : SM := (gRet [] (eAnd (eUn (isiD .int) (eVar 0)) (eAnd (eNot (eUn (isiD .bool) (eVar 0))) (eChain leD leD (eVar 1) (eVar 0) (eVar 2)))))
def m__law_is_whole : List D → R D := runF g__law_is_whole 3
def g__law_is_deed : SM := (gSeq (gIf [] (tE (eOp isD (eVar 0) (eC .none))) (gRet [] (eC (.bool true))) gNext)
  (gSeq (gIf [] (tOrr (tNo (tE (eUn (isiD .tuple) (eVar 0)))) (tE (eOp neD (eCB lenD (aCons (eVar 0) aNil)) (eC (.int 2))))) (gRet [] (eC (.bool false))) gNext)
  (gRet [] (eAnd (eCall m__law_is_whole (aCons (eOp ixD (eVar 0) (eC (.int 0))) (aCons (eUn negD (eC (.int 2))) (aCons (eC (.int 2)) aNil)))) (eCall m__law_is_whole (aCons (eOp ixD (eVar 0) (eC (.int 1))) (aCons (eC (.int 0)) (aCons (eOp subD (eVar 1) (eC (.int 1))) aNil))))))))
def m__law_is_deed : List D → R D := runF g__law_is_deed 2
def g__law_is_row : SM := (gSeq (gIf [] (tOrr (tNo (tE (eUn (isiD .tuple) (eVar 0)))) (tE (eOp neD (eCB lenD (aCons (eVar 0) aNil)) (eC (.int 4))))) (gRet [] (eC (.bool false))) gNext)
  (gRet [] (eOp eqD (eLc (wSeq (eVar 0)) [2] (rtN 2) (tNo (tE (eCall m__law_is_deed (aCons (eVar 2) (aCons (eVar 1) aNil))))) (eVar 2)) (eLstS aNil))))
def m__law_is_row : List D → R D := runF g__law_is_row 3
def g__law_is_mark : SM := (gSeq (gIf [] (tOrr (tNo (tE (eUn (isiD .tuple) (eVar 0)))) (tOrr (tE (eOp neD (eCB lenD (aCons (eVar 0) aNil)) (eC (.int 2)))) (tNo (tE (eUn (isiD .str) (eOp ixD (eVar 0) (eC (.int 0)))))))) (gRet [] (eC (.bool false))) gNext)
  (gRet [] (eAnd (eOp inD (eOp ixD (eVar 0) (eC (.int 0))) (eTupS (aCons (eC (.str "head")) (aCons (eC (.str "tail")) aNil)))) (eCall m__law_is_whole (aCons (eOp ixD (eVar 0) (eC (.int 1))) (aCons (eC (.int 1)) (aCons (eC (.int 4)) aNil)))))))
def m__law_is_mark : List D → R D := runF g__law_is_mark 1
def g__law_is_plot : SM := (gSeq (gIf [] (tOrr (tNo (tE (eUn (isiD .tuple) (eVar 0)))) (tOrr (tE (eOp neD (eCB lenD (aCons (eVar 0) aNil)) (eC (.int 2)))) (tNo (tE (eUn (isiD .tuple) (eOp ixD (eVar 0) (eC (.int 0)))))))) (gRet [] (eC (.bool false))) gNext)
  (gSeq (gAsg [] (eCB lenD (aCons (eOp ixD (eVar 0) (eC (.int 0))) aNil)) (tgN 1))
  (gSeq (gIf [] (tOrr (tNo (tE (eChain leD leD (eC (.int 1)) (eVar 1) (eC (.int 4))))) (tE (eOp neD (eLc (wSeq (eOp ixD (eVar 0) (eC (.int 0)))) [3] (rtN 3) (tNo (tE (eCall m__law_is_row (aCons (eVar 3) (aCons (eVar 1) aNil))))) (eVar 3)) (eLstS aNil)))) (gRet [] (eC (.bool false))) gNext)
  (gSeq (gIf [] (tOrr (tNo (tE (eUn (isiD .tuple) (eOp ixD (eVar 0) (eC (.int 1)))))) (tE (eOp gtD (eCB lenD (aCons (eOp ixD (eVar 0) (eC (.int 1))) aNil)) (eC (.int 2))))) (gRet [] (eC (.bool false))) gNext)
  (gSeq (gIf [] (tE (eOp neD (eLc (wSeq (eOp ixD (eVar 0) (eC (.int 1)))) [2] (rtN 2) (tNo (tE (eCall m__law_is_mark (aCons (eVar 2) aNil)))) (eVar 2)) (eLstS aNil))) (gRet [] (eC (.bool false))) gNext)
  (gRet [] (eOp eqD (eCB listD (aCons (eOp ixD (eVar 0) (eC (.int 1))) aNil)) (eUn sortSetTD (eOp ixD (eVar 0) (eC (.int 1)))))))))))
def m__law_is_plot : List D → R D := runF g__law_is_plot 4
def g__law_kinds (a : Addr) (c : Str) : SM := (gSeq (gAsg [] (eLstS (aCons (eIsE a 0 (decide (c = "InvalidFrame"))) (aCons (eIsE a 0 (decide (c = "InvalidNumber"))) (aCons (eIsE a 0 (decide (c = "InvalidPlan"))) aNil)))) (tgN 1))
  (gSeq (gAsg [] (eOp addD (eVar 1) (eLstS (aCons (eIsE a 0 (decide (c = "InvalidSeen"))) (aCons (eIsE a 0 (decide (c = "InvalidText"))) (aCons (eIsE a 0 (decide (c = "InvalidWord"))) aNil))))) (tgN 1))
  (gSeq (gAsg [] (eOp addD (eVar 1) (eLstS (aCons (eIsE a 0 (decide (c = "NothingToUndo"))) (aCons (eIsE a 0 (decide (c = "TooMany"))) (aCons (eIsE a 0 true) aNil))))) (tgN 1))
  (gSeq (gAsg [] (eLstS (aCons (eC (.str "InvalidFrame")) (aCons (eC (.str "InvalidNumber")) (aCons (eC (.str "InvalidPlan")) (aCons (eC (.str "InvalidSeen")) (aCons (eC (.str "InvalidText")) (aCons (eC (.str "InvalidWord")) aNil))))))) (tgN 2))
  (gSeq (gAsg [] (eOp addD (eVar 2) (eLstS (aCons (eC (.str "NothingToUndo")) (aCons (eC (.str "TooMany")) (aCons (eC (.str "+")) aNil))))) (tgN 2))
  (gRet [] (eJoin (eC (.str " ")) (eLc (wZipL (aCons (eVar 2) (aCons (eVar 1) aNil))) [3, 4] (rtT 2 (rtsCons (rtN 3) (rtsCons (rtN 4) rtsNil))) (tE (eVar 4)) (eVar 3)))))))))
def g__law_call (f : Addr) (m : List D → R D) : SM := (gSeq (gAsg [] (eC .none) (tgN 1))
  (gSeq (gTryK8 3 (gAsg [] (eTupS (aCons (eC (.str "told")) (aCons (eCallF f 0 m aNil) aNil))) (tgN 1)) 1) (gRet [] (eVar 1))))
def m__law_call (f : Addr) (m : List D → R D) : List D → R D := runP (g__law_call f m) 3 f
def g__law_lines : SM := (gSeq (gAsgL [] aNil 1)
  (gSeq (gFor [] (wSeq (eOp ixD (eVar 0) (eC (.int 0)))) (tgN 2)
  (gSeq (gAsg [] (eLc (wSeq (eVar 2)) [4] (rtN 4) tYesD (eIf (tE (eOp isD (eVar 4) (eC .none))) (eC (.str "-")) (eOp addD (eOp addD (eCB strcD (aCons (eOp ixD (eVar 4) (eC (.int 0))) aNil)) (eC (.str ":"))) (eCB strcD (aCons (eOp ixD (eVar 4) (eC (.int 1))) aNil))))) (tgN 3))
  (gApp [] 1 (eOp addD (eC (.str "line ")) (eJoin (eC (.str " ")) (eVar 3))))))
  (gRet [1] (eOp addD (eVar 1) (eLc (wSeq (eOp ixD (eVar 0) (eC (.int 1)))) [5, 6] (rtT 2 (rtsCons (rtN 5) (rtsCons (rtN 6) rtsNil))) tYesD (eOp addD (eOp addD (eOp addD (eC (.str "notch ")) (eVar 5)) (eC (.str " "))) (eCB strcD (aCons (eVar 6) aNil))))))))
def m__law_lines : List D → R D := runF g__law_lines 7
def g__law_deed_in : SM := (gSeq (gIf [] (tE (eOp eqD (eVar 0) (eC (.str "-")))) (gRet [] (eC .none)) gNext)
  (gSeq (gFor [] (wSeq (eTupS (aCons (eUn negD (eC (.int 2))) (aCons (eUn negD (eC (.int 1))) (aCons (eC (.int 0)) (aCons (eC (.int 1)) (aCons (eC (.int 2)) aNil))))))) (tgN 1)
  (gFor [] (wRng rng1 (aCons (eC (.int 4)) aNil)) (tgN 2)
  (gIf [] (tE (eOp eqD (eVar 0) (eOp addD (eOp addD (eCB strcD (aCons (eVar 1) aNil)) (eC (.str ":"))) (eCB strcD (aCons (eVar 2) aNil))))) (gRet [] (eTupS (aCons (eVar 1) (aCons (eVar 2) aNil)))) gNext)))
  (gRet [] (eC (.str "none")))))
def m__law_deed_in : List D → R D := runF g__law_deed_in 3
def g__law_line_in : SM := (gSeq (gAsg [] (eSplit (eVar 0) (eC (.str " "))) (tgN 1))
  (gSeq (gIf [] (tAn (tE (eOp eqD (eOp ixD (eVar 1) (eC (.int 0))) (eC (.str "line")))) (tE (eOp eqD (eCB lenD (aCons (eVar 1) aNil)) (eC (.int 5))))) (gSeq (gAsg [] (eCB tupleD (aCons (eLc (wSeq (eSl (eVar 1) (oSome (eC (.int 1))) oNone)) [3] (rtN 3) tYesD (eCall m__law_deed_in (aCons (eVar 3) aNil))) aNil)) (tgN 2))
  (gRet [] (eIf (tE (eOp inD (eC (.str "none")) (eVar 2))) (eC .none) (eTupS (aCons (eC (.str "line")) (aCons (eVar 2) aNil)))))) gNext)
  (gSeq (gIf [] (tOrr (tE (eOp neD (eOp ixD (eVar 1) (eC (.int 0))) (eC (.str "notch")))) (tOrr (tE (eOp neD (eCB lenD (aCons (eVar 1) aNil)) (eC (.int 3)))) (tE (eOp notInD (eOp ixD (eVar 1) (eC (.int 1))) (eLstS (aCons (eC (.str "head")) (aCons (eC (.str "tail")) aNil))))))) (gRet [] (eC .none)) gNext)
  (gRet [] (eIf (tE (eOp inD (eOp ixD (eVar 1) (eC (.int 2))) (eLstS (aCons (eC (.str "1")) (aCons (eC (.str "2")) (aCons (eC (.str "3")) (aCons (eC (.str "4")) aNil))))))) (eTupS (aCons (eC (.str "notch")) (aCons (eTupS (aCons (eOp ixD (eVar 1) (eC (.int 1))) (aCons (eCB intSD (aCons (eOp ixD (eVar 1) (eC (.int 2))) aNil)) aNil))) aNil))) (eC .none))))))
def m__law_line_in : List D → R D := runF g__law_line_in 4
def g__law_due : SM := (gSeq (gAsg [] (eLc (wSeq (eSplit (eVar 0) (eC (.str "\n")))) [4] (rtN 4) tYesD (eCall m__law_line_in (aCons (eVar 4) aNil))) (tgN 1))
  (gSeq (gIf [] (tE (eOp inD (eC .none) (eVar 1))) (gRet [] (eOp addD (eM1L indexD (eVar 1) (eC .none)) (eC (.int 1)))) gNext)
  (gSeq (gAsg [] (eLc (wSeq (eVar 1)) [5] (rtN 5) tYesD (eOp ixD (eVar 5) (eC (.int 0)))) (tgN 2))
  (gSeq (gIf [] (tE (eOp neD (eVar 2) (eOp addD (eOp mulLD (eLstS (aCons (eC (.str "line")) aNil)) (eM1L countD (eVar 2) (eC (.str "line")))) (eOp mulLD (eLstS (aCons (eC (.str "notch")) aNil)) (eM1L countD (eVar 2) (eC (.str "notch"))))))) (gRet [] (eOp addD (eCB lenD (aCons (eVar 1) aNil)) (eC (.int 1)))) gNext)
  (gSeq (gAsg [] (eLc (wSeq (eTupS (aCons (eC (.str "line")) (aCons (eC (.str "notch")) aNil)))) [6] (rtN 6) tYesD (eCB tupleD (aCons (eLc (wSeq (eVar 1)) [5] (rtN 5) (tE (eOp eqD (eOp ixD (eVar 5) (eC (.int 0))) (eVar 6))) (eOp ixD (eVar 5) (eC (.int 1)))) aNil))) (tgN 3))
  (gRet [] (eIf (tE (eCall m__law_is_plot (aCons (eCB tupleD (aCons (eVar 3) aNil)) aNil))) (eC .none) (eOp addD (eCB lenD (aCons (eVar 1) aNil)) (eC (.int 1))))))))))
def m__law_due : List D → R D := runF g__law_due 7
def g__law_bent (a : Addr) : SM := (gSeq (gPar [] (iD' (eSplit (eVar 1) (eC (.str "\n"))) (iD' (eCallS a m__law_wind (aCons (eVar 0) (aCons (eOp addD (eCB lenD (aCons (eVar 1) aNil)) (eC (.int 1))) aNil))) iNil)) [2, 3])
  (gSeq (gPar [] (iD' (eCallS a m__law_wind (aCons (eVar 0) (aCons (eC (.int 7)) aNil))) (iD' (eCallS a m__law_wind (aCons (eVar 0) (aCons (eCB lenD (aCons (eVar 2) aNil)) aNil))) iNil)) [4, 5])
  (gSeq (gAsg [] (eLstS (aCons (eC (.str "")) (aCons (eC (.str "line - - -")) (aCons (eC (.str "line - - - -")) (aCons (eC (.str "line 1:0 1:1 1:2 1:3")) (aCons (eC (.str "line 1:4 - - -")) aNil)))))) (tgN 6))
  (gSeq (gAsg [] (eOp addD (eVar 6) (eLstS (aCons (eC (.str "line +1:0 - - -")) (aCons (eC (.str "line 3:0 - - -")) (aCons (eC (.str "notch head 1")) aNil))))) (tgN 6))
  (gSeq (gAsg [] (eOp addD (eVar 6) (eLstS (aCons (eC (.str "notch tail 5")) (aCons (eC (.str "notch head 01")) (aCons (eC (.str "Notch head 1")) (aCons (eC (.str "notch  tail 1")) (aCons (eC (.str "notch tail 4")) aNil))))))) (tgN 6))
  (gSeq (gIf [] (tE (eOp eqD (eVar 4) (eC (.int 0)))) (gRet [] (eOp addD (eOp addD (eSl (eVar 1) oNone (oSome (eVar 3))) (eCallS a m__law_any (aCons (eVar 0) (aCons (eLstS (aCons (eC (.str " ")) (aCons (eC (.str "-")) (aCons (eC (.str "1")) (aCons (eC (.str ":")) (aCons (eC (.str "\n")) (aCons (eC (.str "2")) aNil))))))) aNil)))) (eSl (eVar 1) (oSome (eVar 3)) oNone))) gNext)
  (gSeq (gIf [] (tE (eOp eqD (eVar 4) (eC (.int 1)))) (gRet [] (eOp addD (eSl (eVar 1) oNone (oSome (eVar 3))) (eSl (eVar 1) (oSome (eOp addD (eVar 3) (eC (.int 1)))) oNone))) gNext)
  (gSeq (gIf [] (tE (eOp eqD (eVar 4) (eC (.int 2)))) (gRet [] (eJoin (eC (.str "\n")) (eOp addD (eOp addD (eSl (eVar 2) oNone (oSome (eVar 5))) (eLstS (aCons (eCallS a m__law_any (aCons (eVar 0) (aCons (eVar 6) aNil))) aNil))) (eSl (eVar 2) (oSome (eVar 5)) oNone)))) gNext)
  (gSeq (gIf [] (tE (eOp eqD (eVar 4) (eC (.int 3)))) (gRet [] (eJoin (eC (.str "\n")) (eOp addD (eOp addD (eSl (eVar 2) oNone (oSome (eVar 5))) (eLstS (aCons (eCallS a m__law_any (aCons (eVar 0) (aCons (eVar 6) aNil))) aNil))) (eSl (eVar 2) (oSome (eOp addD (eVar 5) (eC (.int 1)))) oNone)))) gNext)
  (gSeq (gIf [] (tE (eOp eqD (eVar 4) (eC (.int 4)))) (gRet [] (eJoin (eC (.str "\n")) (eOp addD (eSl (eVar 2) oNone (oSome (eVar 5))) (eSl (eVar 2) (oSome (eOp addD (eVar 5) (eC (.int 1)))) oNone)))) gNext)
  (gSeq (gIf [] (tE (eOp eqD (eVar 4) (eC (.int 5)))) (gSeq (gAsg [] (eUn revLD (eSl (eVar 2) (oSome (eVar 5)) (oSome (eOp addD (eVar 5) (eC (.int 2)))))) (tgN 7))
  (gRet [] (eJoin (eC (.str "\n")) (eOp addD (eOp addD (eSl (eVar 2) oNone (oSome (eVar 5))) (eVar 7)) (eSl (eVar 2) (oSome (eOp addD (eVar 5) (eC (.int 2)))) oNone))))) gNext)
  (gRet [] (eJoin (eC (.str "\n")) (eOp addD (eVar 2) (eSl (eVar 2) (oSome (eVar 5)) oNone)))))))))))))))
def m__law_bent : MS := runS g__law_bent 8
noncomputable def g_law_rest (a : Addr) : SM := (gSeq (gFor [] (wRng rng1 (aCons (eC (.int 10)) aNil)) (tgN 6)
  (gSeq (gAsg [] (eJoin (eC (.str "\n")) (eCall m__law_lines (aCons (eCallS a m__law_plot (aCons (eVar 5) aNil)) aNil))) (tgN 3))
  (gSeq (gFor [] (wRng rng1 (aCons (eOp addD (eC (.int 1)) (eCallS a m__law_wind (aCons (eVar 5) (aCons (eC (.int 2)) aNil)))) aNil)) (tgN 8)
  (gAsg [] (eCallS a m__law_bent (aCons (eVar 5) (aCons (eVar 3) aNil))) (tgN 3)))
  (gSeq (gPar [] (iD' (eCall m__law_due (aCons (eVar 3) aNil)) (iD' (eCallLam m__law_call aNil [3] (lamM (eCall m_read_plan (aCons (eVar 0) aNil)) 0)) iNil)) [9, 10])
  (gIf [] (tE (eOp isD (eVar 9) (eC .none))) (gIf [] (tOrr (tE (eOp neD (eOp ixD (eVar 10) (eC (.int 0))) (eC (.str "told")))) (tE (eOp neD (eCall m_plan_text (aCons (eOp ixD (eVar 10) (eC (.int 1))) aNil)) (eVar 3)))) (gRet [] (eC (.bool false))) gNext) (gIf [] (tE (eOp neD (eVar 10) (eTupS (aCons (eC (.str "InvalidText +")) (aCons (eVar 9) aNil))))) (gRet [] (eC (.bool false))) gNext))))))
  (gFor [] (wSeq (eLstS (aCons (eC .none) (aCons (eC (.int 5)) (aCons (eLstS (aCons (eC (.str "line - - - -")) aNil)) (aCons (eTupS (aCons (eC (.str "line - - - -")) aNil)) (aCons (eC (.bool true)) aNil))))))) (tgN 7)
  (gIf [] (tE (eOp neD (eCallLam m__law_call aNil [7] (lamM (eCall m_read_plan (aCons (eVar 0) aNil)) 0)) (eTupS (aCons (eC (.str "InvalidText +")) (aCons (eC (.int 0)) aNil))))) (gRet [] (eC (.bool false))) gNext)))
def k_law : SM := fun ρ _ => .nx (ρ.mapIdx fun i l => if i = 0 then l else .un) []
noncomputable def g_law_tail : SM := (gSeq (gAsg [] (eLstS (aCons (eTupS (aCons (eC (.str "")) (aCons (eC (.int 1)) aNil))) (aCons (eTupS (aCons (eC (.str "notch head 1")) (aCons (eC (.int 2)) aNil))) (aCons (eTupS (aCons (eC (.str "line 1:1 - - -")) (aCons (eC (.int 2)) aNil))) (aCons (eTupS (aCons (eC (.str "line - - - -\n")) (aCons (eC (.int 2)) aNil))) aNil))))) (tgN 2))
  (gSeq (gAsg [] (eOp addD (eVar 2) (eLstS (aCons (eTupS (aCons (eC (.str "line - - - -\nnotch tail 1\nnotch head 1")) (aCons (eC (.int 4)) aNil))) aNil))) (tgN 2))
  (gSeq (gFor [] (wSeq (eOp addD (eVar 2) (eLstS (aCons (eTupS (aCons (eC (.str "notch head 1\nline - - - -")) (aCons (eC (.int 3)) aNil))) (aCons (eTupS (aCons (eC (.str "line - - - - -")) (aCons (eC (.int 1)) aNil))) aNil))))) (tgT 2 (tgsCons (tgN 3) (tgsCons (tgN 4) tgsNil)))
  (gIf [] (tE (eOp neD (eCallLam m__law_call aNil [3] (lamM (eCall m_read_plan (aCons (eVar 0) aNil)) 0)) (eTupS (aCons (eC (.str "InvalidText +")) (aCons (eVar 4) aNil))))) (gRet [] (eC (.bool false))) gNext))
  (gRet [] (eC (.bool true))))))
noncomputable def g_law : SM := gSeq (gFor [] (wRng rng1 (aCons (eCB maxD (aCons (eC (.int 1)) (aCons (eCB minD (aCons (eC (.int 8)) (aCons (eCB lenD (aCons (eVar 0) aNil)) aNil))) aNil))) aNil)) (tgN 1)
  (gSpool m__law_spool (aCons (eVar 0) (aCons (eVar 1) aNil)) 5 g_law_rest k_law)) g_law_tail
noncomputable def m_law : List D → R D := runF g_law 11
end Lw
end

section
set_option Elab.async false
set_option linter.all false
set_option maxRecDepth 100000
set_option maxHeartbeats 4000000
/-! The plain law, part 1: plans, one tick. -/
namespace Lw
open PySem PySem.Spec PyProof.Rows L2 DL
abbrev Act := Option (Int × Nat)
structure Plan where
  lines : List (List Act)
  notches : List (Bool × Int)
def encA : Act → D
  | none => .none
  | some (s, l) => .tuple [.int s, .int l]
def encL (l : List Act) : D := .tuple (l.map encA)
def endS (b : Bool) : Str := if b then "head" else "tail"
def encN (q : Bool × Int) : D := .tuple [.str (endS q.1), .int q.2]
def Plan.enc (P : Plan) : D := .tuple [.tuple (P.lines.map encL), .tuple (P.notches.map encN)]
def encO : Option Nat → D
  | none => .none
  | some l => .int l
abbrev Stt := Int × Option Nat
def encS (q : Stt) : D := .tuple [.int q.1, encO q.2]
def Plan.act (P : Plan) (l k : Nat) : Act := ((P.lines[l]?).bind fun r => r[k]?).join
def Plan.kind (P : Plan) (n f : Int) : Nat := if f = 0 then 0 else if f = n - 1 then 2 else if (P.notches.any fun q => decide (q = (true, f))) || (P.notches.any fun q => decide (q = (false, n - 1 - f))) then 3 else 1
def mv (n f s : Int) : Int := min (n - 1) (max 0 (f + s))
def Plan.next (P : Plan) (n : Int) : Stt → Stt
  | (f, none) => (f, none)
  | (f, some l) => match P.act l (P.kind n f) with
    | none => (f, none)
    | some (s, k) => (mv n f s, some k)
structure Plan.Ok (P : Plan) : Prop where
  one : 1 ≤ P.lines.length
  most : P.lines.length ≤ 4
  four : ∀ r ∈ P.lines, r.length = 4
  act : ∀ r ∈ P.lines, ∀ s k, some (s, k) ∈ r → -2 ≤ s ∧ s ≤ 2 ∧ k < P.lines.length
  few : P.notches.length ≤ 2
  far : ∀ q ∈ P.notches, 1 ≤ q.2 ∧ q.2 ≤ 4
  srt : ∀ a b, P.notches = [a, b] → pLt (endS a.1) a.2 (endS b.1) b.2 = true
theorem endS_ne : (endS true == endS false) = false := by decide +kernel
theorem endS_ne' : (endS false == endS true) = false := by decide +kernel
theorem endS_inj {a b : Bool} : (endS a == endS b) = decide (a = b) := by
  cases a <;> cases b <;> decide +kernel
theorem endS_eq {a b : Bool} : endS a = endS b ↔ a = b := by
  have h := endS_inj (a := a) (b := b)
  rw [beq_dec] at h
  exact decide_eq_decide.mp h
theorem plain_notches : ∀ ns : List (Bool × Int), PyData.plainAll (ns.map encN) = true
  | [] => rfl
  | q :: ns => by
    rw [List.map_cons, PyData.plainAll, plain_notches ns]
    rfl
theorem in_notch (b : Bool) (f : Int) (ns : List (Bool × Int)) : inD (.tuple [.str (endS b), .int f]) (.tuple (ns.map encN)) = some (.bool (ns.any fun q => decide (q = (b, f)))) := by
  have e : ((ns.map encN).any fun z => PyData.eqv z (.tuple [.str (endS b), .int f])) = ns.any fun q => decide (q = (b, f)) := by
    rw [List.any_map]
    congr 1
    funext q
    obtain ⟨c, g⟩ := q
    show PyData.eqv (encN (c, g)) (.tuple [.str (endS b), .int f]) = _
    simp only [encN, PyData.eqv, PyData.eqvAll, Bool.and_true, endS_inj, Prod.mk.injEq, beq_dec]
    by_cases h1 : c = b <;> by_cases h2 : g = f <;> simp [h1, h2, endS_eq]
  have hp : pln (.tuple [.str (endS b), .int f]) (.tuple (ns.map encN)) = true := by
    have d1 : (PyData.tuple [.str (endS b), .int f]).depth = 1 := rfl
    unfold pln shal
    have p2 : (PyData.tuple (ns.map encN)).plain = true := by rw [PyData.plain]; exact plain_notches ns
    rw [d1, p2]
    rfl
  show ((some (ns.map encN)).bind fun ys => if pln _ _ then some (PyData.bool (ys.any fun z => PyData.eqv z _)) else none) = _
  rw [Option.bind_some, hp, if_pos rfl, e]
theorem Plan.kind_lt (P : Plan) (n f : Int) : P.kind n f < 4 := by
  unfold Plan.kind
  split
  · decide
  · split
    · decide
    · split <;> decide
theorem Plan.Ok.row {P : Plan} (ok : P.Ok) {l : Nat} (h : l < P.lines.length) : ∃ r, P.lines[l]? = some r ∧ r.length = 4 ∧ r ∈ P.lines := by
  have e := List.getElem?_eq_getElem h
  exact ⟨_, e, ok.four _ (List.getElem_mem h), List.getElem_mem h⟩
theorem Plan.next_lt {P : Plan} (ok : P.Ok) {n f : Int} {l : Option Nat} {k : Nat} (h : (P.next n (f, l)).2 = some k) : k < P.lines.length := by
  cases l with
  | none => cases h
  | some l =>
    unfold Plan.next at h
    simp only at h
    cases e : P.act l (P.kind n f) with
    | none => rw [e] at h; cases h
    | some q =>
      obtain ⟨s, m⟩ := q
      rw [e] at h
      have h' : some m = some k := h
      cases h'
      unfold Plan.act at e
      cases e1 : P.lines[l]? with
      | none => rw [e1] at e; cases e
      | some r =>
        rw [e1, Option.bind_some] at e
        have hm : some (s, k) ∈ r := by
          cases e2 : r[P.kind n f]? with
          | none => rw [e2] at e; cases e
          | some a =>
            rw [e2] at e
            have e3 : a = some (s, k) := e
            rw [← e3]
            exact List.mem_of_getElem? e2
        exact (ok.act r (List.mem_of_getElem? e1) s k hm).2.2
theorem Plan.next_rg {P : Plan} {n f : Int} {l : Option Nat} (h0 : 0 ≤ f) (h1 : f < n) : 0 ≤ (P.next n (f, l)).1 ∧ (P.next n (f, l)).1 < n := by
  cases l with
  | none => exact ⟨h0, h1⟩
  | some l =>
    unfold Plan.next
    simp only
    cases P.act l (P.kind n f) with
    | none => exact ⟨h0, h1⟩
    | some q => unfold mv; simp only; omega
end Lw
end

section
set_option Elab.async false
set_option linter.all false
set_option maxRecDepth 100000
set_option maxHeartbeats 4000000
/-! The plain law, part 2: a plan that is one passes. -/
namespace DL
open PySem PySem.Spec PyProof.Rows L2
theorem lcF_map {α : Type} {e : EM} {enc g : α → D} {i : Nat} {ρ : Rho} {s : List D} : ∀ {xs : List α}, (∀ x ∈ xs, e (ρ.set i (some (enc x))) s = .ok (g x, s)) → lcF (rtN i) tYesD e (xs.map enc) ρ s = .ok (xs.map g, s)
  | [], _ => rfl
  | x :: xs, h => by
    rw [List.map_cons, lcF]
    simp only [rtN, tYesD, nox_ok, bind_ok, if_true]
    rw [h x List.mem_cons_self]
    simp only [nox_ok, bind_ok]
    have := lcF_map (xs := xs) (e := e) (enc := enc) (g := g) (i := i) (ρ := ρ) (s := s) fun y hy => h y (List.mem_cons_of_mem _ hy)
    rw [this]
    rfl
theorem boolsOf_map {α : Type} {p : α → Bool} : ∀ xs : List α, boolsOf (xs.map fun x => .bool (p x)) = some (xs.map p)
  | [] => rfl
  | x :: xs => by rw [List.map_cons, boolsOf, boolsOf_map xs]; rfl
theorem allD_map {α : Type} {p : α → Bool} (xs : List α) : allD [.list (xs.map fun x => .bool (p x))] = some (.bool (xs.all p)) := by
  unfold allD
  simp only
  rw [boolsOf_map]
  simp [List.all_map, Function.comp_def]
end DL
namespace Lw
open PySem PySem.Spec PyProof.Rows L2 DL
theorem m_is_int_eq (i a b : Int) : m_is_int [.int i, .int a, .int b] = .ok (.bool (decide (a ≤ i) && decide (i ≤ b))) := by
  by_cases h : a ≤ i
  · simp [m_is_int, g_is_int, s_runF, isiB, h]
  · simp [m_is_int, g_is_int, s_runF, isiB, h]
@[simp] theorem s_isiT {x : List D} {t : Ty} : isiD t (.tuple x) = some (.bool (isiB (.tuple x) t)) := rfl
@[simp] theorem s_isiS {x : Str} {t : Ty} : isiD t (.str x) = some (.bool (isiB (.str x) t)) := rfl
@[simp] theorem s_isiL {x : List D} {t : Ty} : isiD t (.list x) = some (.bool (isiB (.list x) t)) := rfl
theorem m_is_action_ok {a : Act} {m : Nat} (h : ∀ s k, a = some (s, k) → -2 ≤ s ∧ s ≤ 2 ∧ k < m) : m_is_action [encA a, .int m] = .ok (.bool true) := by
  cases a with
  | none => simp [m_is_action, g_is_action, s_runF, encA]
  | some q =>
    obtain ⟨s, k⟩ := q
    obtain ⟨h1, h2, h3⟩ := h s k rfl
    have h4 : (k : Int) ≤ m - 1 := by omega
    simp [m_is_action, g_is_action, s_runF, encA, isiB, s_neI, m_is_int_eq, h1, h2, h4]
theorem m_is_line_ok {r : List Act} {m : Nat} (h4 : r.length = 4) (h : ∀ s k, some (s, k) ∈ r → -2 ≤ s ∧ s ≤ 2 ∧ k < m) : m_is_line [encL r, .int m] = .ok (.bool true) := by
  have key := lcF_map (e := eCall m_is_action (aCons (eVar 2) (aCons (eVar 1) aNil))) (enc := encA) (g := fun _ => .bool true) (i := 2) (ρ := [some (encL r), some (.int m), none]) (s := []) (xs := r) (fun a ha => by
    simp [m_is_action_ok fun s k e => h s k (e ▸ ha)])
  have e1 : wpR [some (encL r), some (.int m), none] [2] = [some (encL r), some (.int m), none] := by simp [wpR]
  have ha := allD_map (p := fun _ : Act => true) r
  simp [m_is_line, g_is_line, s_runF, encL, isiB, s_eqI, h4, eLc, wSeq, itemsOf]
  rw [show (PyData.tuple (r.map encA)) = encL r from rfl, e1, key]
  simp [ha]
theorem m_is_notch_ok {q : Bool × Int} (h : 1 ≤ q.2 ∧ q.2 ≤ 4) : m_is_notch [encN q] = .ok (.bool true) := by
  obtain ⟨b, f⟩ := q
  obtain ⟨h1, h2⟩ := h
  have hin : inD (.str (endS b)) (.tuple [.str "head", .str "tail"]) = some (.bool true) := by
    cases b <;> rfl
  simp [m_is_notch, g_is_notch, s_runF, encN, isiB, s_neI, hin, m_is_int_eq]
  exact ⟨h1, h2⟩
theorem m_is_plan_ok {P : Plan} (ok : P.Ok) : m_is_plan [P.enc] = .ok (.bool true) := by
  have k1 := lcF_map (e := eCall m_is_line (aCons (eVar 5) (aCons (eCB lenD (aCons (eVar 1) aNil)) aNil))) (enc := encL) (g := fun _ => .bool true) (i := 5)
    (ρ := [some P.enc, some (.tuple (P.lines.map encL)), some (.tuple (P.notches.map encN)), none, none, none]) (s := []) (xs := P.lines) (fun r hr => by
      simp [m_is_line_ok (ok.four r hr) (ok.act r hr)])
  have k2 := lcF_map (e := eCall m_is_notch (aCons (eVar 3) aNil)) (enc := encN) (g := fun _ => .bool true) (i := 3)
    (ρ := [some P.enc, some (.tuple (P.lines.map encL)), some (.tuple (P.notches.map encN)), none, none, none]) (s := []) (xs := P.notches) (fun q hq => by
      simp [m_is_notch_ok (ok.far q hq)])
  have a1 := allD_map (p := fun _ : List Act => true) P.lines
  have a2 := allD_map (p := fun _ : Bool × Int => true) P.notches
  have b1 : (1 : Int) ≤ P.lines.length := by have := ok.one; omega
  have b2 : (P.lines.length : Int) ≤ 4 := by have := ok.most; omega
  have b3 : ¬ (2 : Int) < P.notches.length := by have := ok.few; omega
  have b4 : P.lines.length ≤ 1000000 := by have := ok.most; omega
  have b5 : P.notches.length ≤ 1000000 := by have := ok.few; omega
  have w1 : wpR [some P.enc, some (.tuple (P.lines.map encL)), some (.tuple (P.notches.map encN)), none, none, none] [5] = [some P.enc, some (.tuple (P.lines.map encL)), some (.tuple (P.notches.map encN)), none, none, none] := by simp [wpR]
  have w2 : wpR [some P.enc, some (.tuple (P.lines.map encL)), some (.tuple (P.notches.map encN)), none, none, none] [3] = [some P.enc, some (.tuple (P.lines.map encL)), some (.tuple (P.notches.map encN)), none, none, none] := by simp [wpR]
  have last : eCB allD (aCons (eLc (wZip (aCons (eVar 2) (aCons (eSl (eVar 2) (oSome (eC (.int 1))) oNone) aNil))) [3, 4] (rtT 2 (rtsCons (rtN 3) (rtsCons (rtN 4) rtsNil))) tYesD (eOp ltPD (eVar 3) (eVar 4))) aNil)
      [some P.enc, some (.tuple (P.lines.map encL)), some (.tuple (P.notches.map encN)), none, none, none] [] = .ok (.bool true, []) := by
    have srt := ok.srt
    have few := ok.few
    match hn : P.notches with
    | [] => rfl
    | [a] =>
      obtain ⟨b, f⟩ := a
      rfl
    | [a, b] =>
      have := srt a b hn
      obtain ⟨c, f⟩ := a
      obtain ⟨d, g⟩ := b
      have this : pLt (endS c) f (endS d) g = true := this
      have e1 : ltPD (encN (c, f)) (encN (d, g)) = some (.bool true) := by
        show some (PyData.bool (pLt (endS c) f (endS d) g)) = _
        rw [this]
      have e2 : slD (.tuple [encN (c, f), encN (d, g)]) (some 1) none = some (.tuple [encN (d, g)]) := rfl
      simp [eLc, wZip, wRng, eSl, oSome, oNone, isI, e2, zip2, zipD, lcF, rtT, rtsCons, rtsNil, rtN, tYesD, wpR, e1, allD, boolsOf]
    | _ :: _ :: _ :: _ => rw [hn] at few; simp at few
  have e0 : P.enc = .tuple [.tuple (P.lines.map encL), .tuple (P.notches.map encN)] := rfl
  unfold m_is_plan g_is_plan
  rw [e0] at k1 k2 w1 w2 last ⊢
  simp [eLc, w2] at last
  simp [s_runF, isiB, s_neI, b1, b2, b3, eLc, wSeq, itemsOf, b4, b5, w1, w2, k1, k2, a1, a2, last]
@[simp] theorem s_enc0 (P : Plan) : ixD P.enc (.int 0) = some (.tuple (P.lines.map encL)) := rfl
@[simp] theorem s_enc1 (P : Plan) : ixD P.enc (.int 1) = some (.tuple (P.notches.map encN)) := rfl
theorem lcF_pair {α : Type} {e : EM} {a b g : α → D} {i j : Nat} {ρ : Rho} {s : List D} : ∀ {xs : List α}, (∀ x ∈ xs, e ((ρ.set i (some (a x))).set j (some (b x))) s = .ok (g x, s)) →
    lcF (rtT 2 (rtsCons (rtN i) (rtsCons (rtN j) rtsNil))) tYesD e (xs.map fun x => .tuple [a x, b x]) ρ s = .ok (xs.map g, s)
  | [], _ => rfl
  | x :: xs, h => by
    have ih := lcF_pair (xs := xs) (e := e) (a := a) (b := b) (g := g) (i := i) (j := j) (ρ := ρ) (s := s) fun y hy => h y (List.mem_cons_of_mem _ hy)
    have e1 : rtT 2 (rtsCons (rtN i) (rtsCons (rtN j) rtsNil)) (.tuple [a x, b x]) ρ = some ((ρ.set i (some (a x))).set j (some (b x))) := rfl
    rw [List.map_cons, lcF, e1]
    simp only [tYesD, nox_ok, bind_ok, if_true]
    rw [h x List.mem_cons_self]
    simp only [nox_ok, bind_ok]
    rw [ih]
    rfl
end Lw
end

section
set_option Elab.async false
set_option linter.all false
set_option maxRecDepth 100000
set_option maxHeartbeats 4000000
/-! The plain law: more of the combinators, the spool. -/
namespace DL
open PySem PySem.Spec PyProof.Rows L2
@[simp] theorem s_loop0 {tg : TgM} {A : SM} {ρ : List L} {s : List D} : loopF tg A [] ρ s = .nx ρ s := rfl
def lv (l : L) : Option D := match l with
  | .d x => some x
  | _ => none
@[simp] theorem s_lv {x : D} : lv (.d x) = some x := rfl
@[simp] theorem s_lvun : lv .un = none := rfl
@[simp] theorem s_lvown {c : Cell} : lv (.own c) = none := rfl
@[simp] theorem s_vwc {l : L} {ρ : List L} : vw (l :: ρ) = lv l :: vw ρ := by cases l <;> rfl
theorem s_loopN {i : Nat} {A : SM} {ρ : List L} {s : List D} {d : D} {r : List D} : loopF (tgN i) A (d :: r) ρ s = (A (ρ.set i (.d d)) s).lp (loopF (tgN i) A r) := s_loop
@[simp] theorem s_gSeqN {A B : SM} {ρ : List L} {s : List D} : gSeqN A B ρ s = match A ρ s with
  | .nx ρ' s' => B ρ' s'
  | .ex e => .ex e
  | _ => .un := rfl
@[simp] theorem s_gRetL {f : AM} {ρ : List L} {s : List D} : gRetL f ρ s = exprS (f (vw (fz [] ρ)) s) fun ds s' => if small ds.length && ds.all flat then .rt (.list ds) s' else .un := rfl
@[simp] theorem s_abs {i : Int} : absD [.int i] = some (.int (if i < 0 then -i else i)) := rfl
@[simp] theorem s_flatI {i : Int} : flat (.int i) = true := rfl

@[simp] theorem s_spGet {a : Addr} {j i : Nat} {ρ : Rho} {s : List D} : eSpGet a j i ρ s = match ρ[j]? with | some (some d) => if isSp a d then ofO s[i]? s else .un | _ => .un := rfl
@[simp] theorem s_spSet {a : Addr} {ms : List Nat} {j i : Nat} {f : EM} {ρ : List L} {s : List D} : gSpSet a ms j i f ρ s = match ρ[j]? with
  | some (.d x) => if isSp a x then exprS (f (vw (fz ms ρ)) s) fun d s' => if flat d && decide (i < s'.length) then .nx ρ (s'.set i d) else .un else .un
  | _ => .un := rfl
@[simp] theorem s_isSp {a : Addr} : isSp a (opq a) = true := isSp_self a
@[simp] theorem s_int {i : Int} : intD [.int i] = some (.int i) := rfl
@[simp] theorem s_callS {a : Addr} {m : MS} {h : AM} {ρ : Rho} {s : List D} : eCallS a m h ρ s = (h ρ s).bind fun z => match z.1 with | d :: ds => if isSp a d then m a (d :: ds) z.2 else .un | [] => .un := rfl
theorem bl_un {d : D} {ρ : List L} {n : Nat} (h : ρ.length = n) : Bl (.d d :: ρ) (.d d :: List.replicate n .un) := by
  refine ⟨by rw [List.length_cons, List.length_cons, List.length_replicate, h], fun i l hl => ?_⟩
  cases i with
  | zero => exact .inr ⟨_, by simpa using hl.symm, rfl⟩
  | succ i =>
    rw [List.getElem?_cons_succ, List.getElem?_replicate] at hl
    split at hl
    · exact .inl (Option.some.inj hl).symm
    · cases hl
theorem spool_once {m : List D → R D} {h : AM} {j n : Nat} {gr : Addr → SM} {k : SM} {d : D} {ρ0 : List L} {s s0 : List D} {ds zs : List D} (e1 : h (vw (.d d :: ρ0)) s = .ok (ds, s0)) (e2 : m ds = .ok (.list zs)) (no : noOwn (.d d :: ρ0) = true) (e3 : k (.d d :: ρ0) zs = .nx (.d d :: List.replicate n .un) [])
    (hr : ∀ q : Addr, ∃ (ρ' : List L) (s' : List D), ρ'.length = n ∧ gr q ((.d d :: ρ0).set j (.d (opq q))) zs = .nx (.d d :: ρ') s') : gSpool m h j gr k (.d d :: ρ0) s = .nx (.d d :: List.replicate n .un) [] := by
  have H : ∀ q : Addr, Fl.le (gr q ((.d d :: ρ0).set j (.d (opq q))) zs) (k (.d d :: ρ0) zs) := fun q => by
    obtain ⟨ρ', s', hl, e⟩ := hr q
    rw [e, e3]
    exact ⟨bl_un hl, rfl⟩
  unfold gSpool
  rw [s_fz0, e1, exprS_ok]
  simp only [e2]
  rw [if_pos ⟨no, H⟩, e3]
theorem s_eLcA {f : WM} {vs : List Nat} {t : RtM} {c : TM} {e : EM} {ρ : Rho} {s : List D} : eLc f vs t c e ρ s = (f ρ s).bind fun z => if small z.1.length then (lcF t c e z.1 (wpR ρ vs) z.2).bind fun y => .ok (.list y.1, y.2) else .un := rfl
end DL
namespace Lw
open PySem PySem.Spec PyProof.Rows L2 DL
theorem pow6 : powD (.int 10) (.int 6) = some (.int 1000000) := rfl
theorem pow30 : powD (.int 10) (.int 30) = some (.int 1000000000000000000000000000000) := rfl
theorem pow28 : powD (.int 10) (.int 28) = some (.int 10000000000000000000000000000) := rfl
theorem pow20 : powD (.int 10) (.int 20) = some (.int 100000000000000000000) := rfl
theorem pow15 : powD (.int 10) (.int 15) = some (.int 1000000000000000) := rfl
theorem ints_plain : ∀ xs : List Int, PyData.plainAll (xs.map .int) = true ∧ PyData.depthAll (xs.map .int) = 0 ∧ PyData.eqvAll (xs.map .int) (xs.map .int) = true
  | [] => ⟨rfl, rfl, rfl⟩
  | x :: xs => by
    obtain ⟨h1, h2, h3⟩ := ints_plain xs
    refine ⟨?_, ?_, ?_⟩
    · rw [List.map_cons, PyData.plainAll, h1]; rfl
    · rw [List.map_cons, PyData.depthAll, h2]; rfl
    · rw [List.map_cons, PyData.eqvAll, h3]; simp [PyData.eqv]
theorem ne_ints (xs : List Int) : neD (.list (xs.map .int)) (.list (xs.map .int)) = some (.bool false) := by
  obtain ⟨h1, h2, h3⟩ := ints_plain xs
  have p1 : (PyData.list (xs.map .int)).plain = true := by rw [PyData.plain]; exact h1
  have p2 : (PyData.list (xs.map .int)).depth ≤ 64 := by rw [PyData.depth, h2]; decide
  have p3 : PyData.eqv (PyData.list (xs.map .int)) (PyData.list (xs.map .int)) = true := by rw [PyData.eqv]; exact h3
  have hp : pln (.list (xs.map .int)) (.list (xs.map .int)) = true := by
    unfold pln shal
    rw [p1, decide_eq_true p2]
    rfl
  unfold neD
  rw [hp, if_pos rfl, p3]
  rfl
theorem rgD_nat (m : Nat) : rgD 0 m = (List.range m).map fun (i : Nat) => .int (i : Int) := by
  unfold rgD
  simp
theorem rng1_nat {m : Nat} (hm : m ≤ 100000) : rng1 [.int m] = some ((List.range m).map fun (i : Nat) => .int (i : Int)) := by
  have hr : rgOk 0 m = true := by
    unfold rgOk
    rw [decide_eq_true (show (0 : Int).natAbs < 2 ^ 62 by decide), decide_eq_true (show (m : Int).natAbs < 2 ^ 62 by omega)]
    rfl
  show (if rgOk 0 m then some (rgD 0 m) else none) = _
  rw [hr, if_pos rfl, rgD_nat]
end Lw
end

section
set_option Elab.async false
set_option linter.all false
set_option maxRecDepth 100000
set_option maxHeartbeats 4000000
/-! The plain law: the spool and what is drawn of it. -/
namespace Lw
open PySem PySem.Spec PyProof.Rows L2 DL
def St (s : List D) : Prop := ∃ c d : Int, s = [.int c, .int d] ∧ 0 ≤ c ∧ 0 ≤ d ∧ d < 2147483060
theorem wind_loop (a : Addr) {many : Int} (h0 : 1 ≤ many) (h1 : many ≤ 10 ^ 30) (c : Int) : ∀ (m : Nat) (found wide d : Int) (fu : Nat), (many - wide).toNat < m → m < fu → 1 ≤ wide → wide ≤ 8192 * 10 ^ 30 → 0 ≤ found → found < wide → 0 ≤ d → d < 2147483060 →
    ∃ (found' wide' d' : Int), 0 ≤ d' ∧ d' < 2147483060 ∧
    whileF [] (tOrr (tE (eOp ltD (eVar 3) (eVar 1))) (tE (eOp eqD (eVar 3) (eC (.int 1)))))
      (gSeq (gSpSet a [] 0 1 (eOp modD (eCB intD (aCons (eOp addD (eOp mulD (eSpGet a 0 1) (eC (.int 25931))) (eC (.int 79))) aNil)) (eC (.int 2147483059))))
      (gSeq (gAsg [] (eOp addD (eOp mulD (eVar 2) (eC (.int 8192))) (eOp modD (eCB intD (aCons (eOp fdivD (eSpGet a 0 1) (eC (.int 65609))) aNil)) (eC (.int 8192)))) (tgN 2))
      (gAsg [] (eOp mulD (eVar 3) (eC (.int 8192))) (tgN 3))))
      fu [.d (opq a), .d (.int many), .d (.int found), .d (.int wide)] [.int c, .int d] = .nx [.d (opq a), .d (.int many), .d (.int found'), .d (.int wide')] [.int c, .int d']
  | 0, _, _, _, _, h, _, _, _, _, _, _, _ => absurd h (Nat.not_lt_zero _)
  | m + 1, found, wide, d, 0, _, h, _, _, _, _, _, _ => absurd h (Nat.not_lt_zero _)
  | m + 1, found, wide, d, fu + 1, hm, hf, w1, w2, f1, f2, d1, d2 => by
    rw [whileF_succ]
    have e1 := s_eqI (x := wide) (y := 1)
    by_cases hc : wide < many ∨ wide = 1
    · have mu1 := s_mul (x := d) (y := 25931) (Nat.lt_of_le_of_lt (show d.natAbs ≤ 2147483060 by omega) (by decide)) (by decide)
      have md1 := s_mod (x := d * 25931 + 79) (y := 2147483059) (by decide)
      obtain ⟨d', ed⟩ : ∃ d', d' = (d * 25931 + 79) % 2147483059 := ⟨_, rfl⟩
      have dd : 0 ≤ d' ∧ d' < 2147483059 := by omega
      have mu2 := s_mul (x := found) (y := 8192) (Nat.lt_of_le_of_lt (show found.natAbs ≤ 8192 * 10 ^ 30 by omega) (by decide)) (by decide)
      have dv := s_div (x := d') (y := 65609) (by decide) (by decide)
      have md2 := s_mod (x := d' / 65609) (y := 8192) (by decide)
      have mu3 := s_mul (x := wide) (y := 8192) (Nat.lt_of_le_of_lt (show wide.natAbs ≤ 8192 * 10 ^ 30 by omega) (by decide)) (by decide)
      rw [← ed] at md1
      obtain ⟨x, ex⟩ : ∃ x, x = d' / 65609 % 8192 := ⟨_, rfl⟩
      have xx : 0 ≤ x ∧ x < 8192 := by omega
      rw [← ex] at md2
      have w3 : wide ≤ 10 ^ 30 := by omega
      by_cases h2 : wide * 8192 < many
      · obtain ⟨f', w', d2', k1, k2, k3⟩ := wind_loop a h0 h1 c m (found * 8192 + x) (wide * 8192) d' fu (by omega) (by omega) (by omega) (by omega) (by omega) (by omega) dd.1 (by omega)
        refine ⟨f', w', d2', k1, k2, ?_⟩
        have c1 : wide < many := by omega
        simp [c1, mu1, md1, mu2, dv, md2, mu3]
        exact k3
      · match fu, hf with
        | fu + 1, hf =>
        have e2 := s_eqI (x := wide * 8192) (y := 1)
        have n1 : ¬ wide * 8192 = 1 := by omega
        refine ⟨found * 8192 + x, wide * 8192, d', dd.1, by omega, ?_⟩
        by_cases c1 : wide < many
        · simp [c1, mu1, md1, mu2, dv, md2, mu3, whileF_succ, h2, e2, n1]
        · have c2 : wide = 1 := by omega
          subst c2
          have h3 : ¬ (8192 : Int) < many := by omega
          simp at mu3
          simp [c1, e1, mu1, md1, mu2, dv, md2, mu3, whileF_succ, h3, s_eqI]
        | 0, hf => omega
    · have c1 : ¬ wide < many := fun z => hc (.inl z)
      have c2 : ¬ wide = 1 := fun z => hc (.inr z)
      refine ⟨found, wide, d, d1, d2, ?_⟩
      simp [c1, e1, c2]
theorem m_wind_ok (a : Addr) {many : Int} (h0 : 1 ≤ many) (h1 : many ≤ 10 ^ 30) {s : List D} (hs : St s) : ∃ (r : Int) (s' : List D), m__law_wind a [opq a, .int many] s = .ok (.int r, s') ∧ 0 ≤ r ∧ r < many ∧ St s' := by
  obtain ⟨c, d, rfl, c0, d0, d1⟩ := hs
  have mb : many.natAbs < 10 ^ 60 := Nat.lt_of_le_of_lt (show many.natAbs ≤ 10 ^ 30 by omega) (by decide)
  by_cases hc : 0 < c
  · have md := s_mod (x := c) (y := many) (by omega)
    have dv := s_div (x := c) (y := many) (by omega) mb
    refine ⟨c % many, [.int (c / many), .int d], ?_, Int.emod_nonneg _ (by omega), Int.emod_lt_of_pos _ (by omega), _, _, rfl, Int.ediv_nonneg c0 (by omega), d0, d1⟩
    simp [m__law_wind, g__law_wind, s_runS, hc, md, dv]
  · obtain ⟨f', w', d', k1, k2, k3⟩ := wind_loop a h0 h1 c (many.toNat + 1) 0 1 d fuel (by omega) (by unfold fuel; exact Nat.lt_of_le_of_lt (show many.toNat + 1 ≤ 10 ^ 31 by omega) (by decide)) (by omega) (by omega) (by omega) (by omega) d0 d1
    have md := s_mod (x := f') (y := many) (by omega)
    refine ⟨f' % many, [.int c, .int d'], ?_, Int.emod_nonneg _ (by omega), Int.emod_lt_of_pos _ (by omega), _, _, rfl, c0, k1, k2⟩
    simp [m__law_wind, g__law_wind, s_runS, hc]
    rw [k3]
    simp [md]
theorem m_any_ok (a : Addr) {xs : List D} (h0 : xs ≠ []) (h1 : xs.length ≤ 1000) {s : List D} (hs : St s) : ∃ (x : D) (s' : List D), m__law_any a [opq a, .list xs] s = .ok (x, s') ∧ x ∈ xs ∧ St s' := by
  have lp : 1 ≤ xs.length := by
    cases xs with
    | nil => exact absurd rfl h0
    | cons _ _ => simp
  obtain ⟨r, s', e, r0, r1, hs'⟩ := m_wind_ok a (many := xs.length) (by omega) (by omega) hs
  obtain ⟨i, rfl⟩ : ∃ i : Nat, r = i := ⟨r.toNat, by omega⟩
  have hi : i < xs.length := by omega
  have g : xs[i]? = some (xs[i]'hi) := List.getElem?_eq_getElem hi
  refine ⟨xs[i]'hi, s', ?_, List.getElem_mem hi, hs'⟩
  simp [m__law_any, g__law_any, s_runS, e, g]
def ten240 : Int := 10 ^ 240
theorem pow60 : powD (.int 10) (.int 60) = some (.int (10 ^ 60)) := rfl
theorem pow18 : powD (.int 10) (.int 18) = some (.int 1000000000000000000) := rfl
theorem okN_big {i : Int} (h : i.natAbs < 10 ^ 300) : okN i = true := by
  unfold okN big
  refine decide_eq_true (Nat.lt_trans h ?_)
  calc 10 ^ 300 < 2 ^ 1000 := by decide
    _ ≤ 2 ^ 4000 := Nat.pow_le_pow_right (by decide) (by decide)
theorem s_mulB {x y : Int} (hx : x.natAbs < 10 ^ 300) (hy : y.natAbs < 10 ^ 300) : mulD (.int x) (.int y) = some (.int (x * y)) := by
  show (if okN x && okN y then some (PyData.int (x * y)) else none) = _
  rw [okN_big hx, okN_big hy]
  rfl
theorem tens : ∃ t : Int, 0 < t ∧ ∀ (ρ : Rho) (s : List D), eOp mulD (eOp mulD (eOp mulD (eOp powD (eC (.int 10)) (eC (.int 60))) (eOp powD (eC (.int 10)) (eC (.int 60)))) (eOp powD (eC (.int 10)) (eC (.int 60)))) (eOp powD (eC (.int 10)) (eC (.int 60))) ρ s = .ok (.int t, s) := by
  refine ⟨10 ^ 60 * 10 ^ 60 * 10 ^ 60 * 10 ^ 60, by decide +kernel, fun ρ s => ?_⟩
  have e1 := s_mulB (x := 10 ^ 60) (y := 10 ^ 60) (by decide +kernel) (by decide +kernel)
  have e2 := s_mulB (x := 10 ^ 60 * 10 ^ 60) (y := 10 ^ 60) (by decide +kernel) (by decide +kernel)
  have e3 := s_mulB (x := 10 ^ 60 * 10 ^ 60 * 10 ^ 60) (y := 10 ^ 60) (by decide +kernel) (by decide +kernel)
  simp only [s_eOp, s_eC, bind_ok, pow60, ofO_some, e1, e2, e3]
theorem spool_end (x0 : L) (k : Nat) (hk : k ≤ 1000) {c : Int} (c0 : 0 ≤ c) : ∃ s, St s ∧
    gRetL (aCons (eIf (tE (eOp geD (eVar 2) (eOp powD (eC (.int 10)) (eC (.int 18))))) (eVar 2) (eC (.int 0))) (aCons (eOp addD (eOp modD (eCB intD (aCons (eOp addD (eOp addD (eOp mulD (eOp modD (eVar 2) (eC (.int 2147483059))) (eC (.int 13))) (eOp mulD (eC (.int 71)) (eVar 1))) (eC (.int 29))) aNil)) (eC (.int 2147483059))) (eC (.int 1))) aNil)) [x0, .d (.int (k : Int)), .d (.int c)] [] = .rt (.list s) [] := by
  have md := s_mod (x := c) (y := 2147483059) (by decide)
  obtain ⟨m, em⟩ : ∃ m, m = c % 2147483059 := ⟨_, rfl⟩
  have m0 : 0 ≤ m ∧ m < 2147483059 := by omega
  rw [← em] at md
  have mu1 := s_mul (x := m) (y := 13) (Nat.lt_of_le_of_lt (show m.natAbs ≤ 2147483060 by omega) (by decide)) (by decide)
  have mu2 := s_mul (x := 71) (y := (k : Int)) (by decide) (Nat.lt_of_le_of_lt (show ((k : Int)).natAbs ≤ 1000 by omega) (by decide))
  have md2 := s_mod (x := m * 13 + 71 * (k : Int) + 29) (y := 2147483059) (by decide)
  obtain ⟨r, er⟩ : ∃ r, r = (m * 13 + 71 * (k : Int) + 29) % 2147483059 := ⟨_, rfl⟩
  rw [← er] at md2
  by_cases hc : (1000000000000000000 : Int) ≤ c
  · refine ⟨[.int c, .int (r + 1)], ⟨c, r + 1, rfl, c0, by omega, by omega⟩, ?_⟩
    simp [pow18, md, mu1, mu2, md2, hc]
  · refine ⟨[.int 0, .int (r + 1)], ⟨0, r + 1, rfl, by omega, by omega, by omega⟩, ?_⟩
    simp [pow18, md, mu1, mu2, md2, hc]
theorem spool_cell {ns : List Int} {k : Nat} (hk : k ≤ 1000) : ∃ c : Int, 0 ≤ c ∧
    gIf [] (tE (eOp ltD (eVar 1) (eCB lenD (aCons (eVar 0) aNil)))) (gAsg [] (eOp modD (eCB absD (aCons (eCB intD (aCons (eOp ixD (eVar 0) (eVar 1)) aNil)) aNil)) (eOp mulD (eOp mulD (eOp mulD (eOp powD (eC (.int 10)) (eC (.int 60))) (eOp powD (eC (.int 10)) (eC (.int 60)))) (eOp powD (eC (.int 10)) (eC (.int 60)))) (eOp powD (eC (.int 10)) (eC (.int 60))))) (tgN 2)) (gIf [] (tE (eOp gtD (eCB lenD (aCons (eVar 0) aNil)) (eC (.int 0)))) (gAsg [] (eOp addD (eVar 2) (eOp modD (eCB absD (aCons (eCB intD (aCons (eOp ixD (eVar 0) (eC (.int 0))) aNil)) aNil)) (eC (.int 1000333)))) (tgN 2)) gNext)
      [.d (.list (ns.map .int)), .d (.int (k : Int)), .d (.int (29327 * (k : Int) + 61))] [] = .nx [.d (.list (ns.map .int)), .d (.int (k : Int)), .d (.int c)] [] := by
  obtain ⟨t, t0, et⟩ := tens
  by_cases h1 : k < ns.length
  · have g : (ns.map PyData.int)[k]? = some (.int (ns[k]'h1)) := by rw [List.getElem?_map, List.getElem?_eq_getElem h1]; rfl
    generalize ns[k]'h1 = x at g
    have h1' : ((k : Int) < (ns.length : Int)) := by omega
    obtain ⟨a, ea⟩ : ∃ a, a = if x < 0 then -x else x := ⟨_, rfl⟩
    have md := s_mod (x := a) (y := t) t0
    refine ⟨a % t, Int.emod_nonneg _ (by omega), ?_⟩
    rw [ea] at md ⊢
    generalize hT : eOp mulD (eOp mulD (eOp mulD (eOp powD (eC (.int 10)) (eC (.int 60))) (eOp powD (eC (.int 10)) (eC (.int 60)))) (eOp powD (eC (.int 10)) (eC (.int 60)))) (eOp powD (eC (.int 10)) (eC (.int 60))) = T at et
    simp [h1', g, et, md]
  · have h1' : ¬ ((k : Int) < (ns.length : Int)) := by omega
    cases ns with
    | nil => exact ⟨29327 * (k : Int) + 61, by omega, by simp at h1' ⊢⟩
    | cons x r =>
      obtain ⟨a, ea⟩ : ∃ a, a = if x < 0 then -x else x := ⟨_, rfl⟩
      have md := s_mod (x := a) (y := 1000333) (by decide)
      refine ⟨29327 * (k : Int) + 61 + a % 1000333, by omega, ?_⟩
      rw [ea] at md ⊢
      have h2 : (0 : Int) < ((x :: r).length : Int) := by simp
      simp only [List.length_cons] at h1' h2
      push_cast at h1' h2
      simp [h1', h2, md]
theorem m_spool_ok {ns : List Int} {k : Nat} (hk : k ≤ 1000) : ∃ s, m__law_spool [.list (ns.map .int), .int (k : Int)] = .ok (.list s) ∧ St s := by
  obtain ⟨c, c0, e1⟩ := spool_cell (ns := ns) hk
  obtain ⟨s, hs, e2⟩ := spool_end (.d (.list (ns.map .int))) k hk c0
  refine ⟨s, ?_, hs⟩
  have mu := s_mul (x := 29327) (y := (k : Int)) (by decide) (Nat.lt_of_le_of_lt (show ((k : Int)).natAbs ≤ 1000 by omega) (by decide))
  have st : gAsg [] (eOp addD (eOp mulD (eC (.int 29327)) (eVar 1)) (eC (.int 61))) (tgN 2) [.d (.list (ns.map .int)), .d (.int (k : Int)), .un] [] = .nx [.d (.list (ns.map .int)), .d (.int (k : Int)), .d (.int (29327 * (k : Int) + 61))] [] := by
    simp [mu]
  unfold m__law_spool
  rw [s_runF]
  unfold g__law_spool
  simp only [List.map_cons, List.map_nil, List.length_cons, List.length_nil, Nat.reduceAdd, Nat.reduceSub, List.replicate, List.cons_append, List.nil_append]
  rw [s_gSeqN, st]
  simp only []
  rw [s_gSeqN, e1]
  simp only []
  rw [e2]
  rfl
end Lw
end

section
set_option Elab.async false
set_option linter.all false
set_option maxRecDepth 100000
set_option maxHeartbeats 4000000
/-! The plain law: plans that are drawn. -/
namespace Lw
open PySem PySem.Spec PyProof.Rows L2 DL
def ActOk (m : Nat) (c : Act) : Prop := ∀ s k, c = some (s, k) → -2 ≤ s ∧ s ≤ 2 ∧ k < m
theorem m_deed_ok (a : Addr) {m : Nat} (h0 : 1 ≤ m) (h1 : m ≤ 4) {ss : List Int} (hn : ss ≠ []) (hl : ss.length ≤ 10) (hb : ∀ x ∈ ss, -2 ≤ x ∧ x ≤ 2) {st : Int} (t0 : 1 ≤ st) (t1 : st ≤ 100) {s : List D} (hs : St s) :
    ∃ (c : Act) (s' : List D), m__law_deed a [opq a, .int m, .list (ss.map .int), .int st] s = .ok (encA c, s') ∧ ActOk m c ∧ St s' := by
  obtain ⟨r, s1, e1, _, _, hs1⟩ := m_wind_ok a (many := st) t0 (by omega) hs
  have q := s_eqI (x := r) (y := 0)
  by_cases hr : r = 0
  · refine ⟨none, s1, ?_, (fun _ _ z => by cases z), hs1⟩
    simp [m__law_deed, g__law_deed, s_runS, e1, q, hr, encA, s_eqI]
  · obtain ⟨x, s2, e2, hx, hs2⟩ := m_any_ok a (xs := ss.map .int) (by simpa using hn) (by simp; omega) hs1
    obtain ⟨v, hv, rfl⟩ := List.mem_map.mp hx
    obtain ⟨k, s3, e3, k0, k1, hs3⟩ := m_wind_ok a (many := m) (by omega) (by omega) hs2
    obtain ⟨j, rfl⟩ : ∃ j : Nat, k = j := ⟨k.toNat, by omega⟩
    refine ⟨some (v, j), s3, ?_, (fun s k z => by cases z; exact ⟨(hb v hv).1, (hb v hv).2, by omega⟩), hs3⟩
    simp [m__law_deed, g__law_deed, s_runS, e1, q, hr, e2, e3, encA]
theorem m_row_ok (a : Addr) {m : Nat} (h0 : 1 ≤ m) (h1 : m ≤ 4) {s : List D} (hs : St s) : ∃ (r : List Act) (s' : List D), m__law_row a [opq a, .int m] s = .ok (encL r, s') ∧ r.length = 4 ∧ (∀ c ∈ r, ActOk m c) ∧ St s' := by
  have ls : ∀ x ∈ ([[1, 1, 2], [-1, -1, -2], [1, 2, -1], [0, 1, -1], [2, 2, 1, -1]] : List (List Int)), x ≠ [] ∧ x.length ≤ 10 ∧ ∀ y ∈ x, -2 ≤ y ∧ y ≤ 2 := by decide
  obtain ⟨x, s1, e1, hx, hs1⟩ := m_any_ok a (xs := ([[1, 1, 2], [-1, -1, -2], [1, 2, -1], [0, 1, -1], [2, 2, 1, -1]] : List (List Int)).map fun l => .list (l.map .int)) (by simp) (by simp) hs
  obtain ⟨on, ho, rfl⟩ := List.mem_map.mp hx
  obtain ⟨o1, o2, o3⟩ := ls on ho
  obtain ⟨c0, s2, e2, k0, hs2⟩ := m_deed_ok a h0 h1 (ss := [1, 1, 2, 2, 0]) (by simp) (by simp) (by decide) (st := 12) (by omega) (by omega) hs1
  obtain ⟨c2, s3, e3, k2, hs3⟩ := m_deed_ok a h0 h1 (ss := [-1, -1, -2, -2, 0]) (by simp) (by simp) (by decide) (st := 7) (by omega) (by omega) hs2
  obtain ⟨c1, s4, e4, k1, hs4⟩ := m_deed_ok a h0 h1 (ss := on) o1 o2 o3 (st := 60) (by omega) (by omega) hs3
  obtain ⟨c3, s5, e5, k3, hs5⟩ := m_deed_ok a h0 h1 (ss := [1, 2, -1, -2]) (by simp) (by simp) (by decide) (st := 20) (by omega) (by omega) hs4
  simp at e1 e2 e3 e5
  refine ⟨[c0, c1, c2, c3], s5, ?_, rfl, ?_, hs5⟩
  · have fa : ∀ c, flat (encA c) = flat (encA c) := fun _ => rfl
    simp [m__law_row, g__law_row, s_runS, negD, e1, e2, e3, e4, e5, encL]
  · intro c hc
    simp at hc
    rcases hc with rfl | rfl | rfl | rfl <;> assumption
def FarOk (q : Bool × Int) : Prop := 1 ≤ q.2 ∧ q.2 ≤ 4
theorem mark_loop (a : Addr) (m : Int) : ∀ (xs : List D) (acc : List (Bool × Int)) (x : L) (s : List D), St s → acc.length + xs.length ≤ 100 → (∀ q ∈ acc, FarOk q) →
    ∃ (acc' : List (Bool × Int)) (s' : List D) (x' : L), St s' ∧ acc'.length = acc.length + xs.length ∧ (∀ q ∈ acc', FarOk q) ∧
    loopF (tgN 3) (gApp [] 2 (eTupS (aCons (eCallS a m__law_any (aCons (eVar 0) (aCons (eLstS (aCons (eC (.str "head")) (aCons (eC (.str "tail")) aNil))) aNil))) (aCons (eOp addD (eC (.int 1)) (eCallS a m__law_wind (aCons (eVar 0) (aCons (eC (.int 4)) aNil)))) aNil)))) xs
      [.d (opq a), .d (.int m), .own (.lst (acc.map encN)), x] s = .nx [.d (opq a), .d (.int m), .own (.lst (acc'.map encN)), x'] s'
  | [], acc, x, s, hs, _, ha => ⟨acc, s, x, hs, rfl, ha, rfl⟩
  | y :: xs, acc, x, s, hs, hl, ha => by
    obtain ⟨w, s1, e1, hw, hs1⟩ := m_any_ok a (xs := [.str "head", .str "tail"]) (by simp) (by simp) hs
    obtain ⟨b, eb⟩ : ∃ b : Bool, w = .str (endS b) := by
      rcases List.mem_cons.mp hw with e | e
      · exact ⟨true, e⟩
      · exact ⟨false, List.mem_singleton.mp e⟩
    subst eb
    obtain ⟨k, s2, e2, k0, k1, hs2⟩ := m_wind_ok a (many := 4) (by omega) (by omega) hs1
    obtain ⟨acc', s', x', g1, g2, g3, g4⟩ := mark_loop a m xs (acc ++ [(b, 1 + k)]) (.d y) s2 hs2 (by simp at hl ⊢; omega) (fun q hq => by
      rcases List.mem_append.mp hq with z | z
      · exact ha q z
      · rw [List.mem_singleton.mp z]; exact ⟨by show 1 ≤ 1 + k; omega, by show 1 + k ≤ 4; omega⟩)
    refine ⟨acc', s', x', g1, by rw [g2]; simp; omega, g3, ?_⟩
    have la : acc.length ≤ 999999 := by simp at hl; omega
    rw [s_loop]
    simp [encN] at g4
    simp [e1, e2, la]
    exact g4
theorem row_lc (a : Addr) {m : Nat} (h0 : 1 ≤ m) (h1 : m ≤ 4) (z : Option D) : ∀ (xs : List D) (s : List D), St s →
    ∃ (rs : List (List Act)) (s' : List D), lcF (rtN 3) tYesD (eCallS a m__law_row (aCons (eVar 0) (aCons (eVar 1) aNil))) xs [some (opq a), some (.int m), z, none] s = .ok (rs.map encL, s') ∧ rs.length = xs.length ∧ (∀ r ∈ rs, r.length = 4 ∧ ∀ c ∈ r, ActOk m c) ∧ St s'
  | [], s, hs => ⟨[], s, rfl, rfl, (fun _ h => nomatch h), hs⟩
  | x :: xs, s, hs => by
    obtain ⟨r, s1, e1, r1, r2, hs1⟩ := m_row_ok a h0 h1 hs
    obtain ⟨rs, s2, e2, q1, q2, hs2⟩ := row_lc a h0 h1 z xs s1 hs1
    refine ⟨r :: rs, s2, ?_, by simp [q1], fun t ht => ?_, hs2⟩
    · rw [lcF]
      simp only [rtN, tYesD, nox_ok, bind_ok, if_true]
      have ec : eCallS a m__law_row (aCons (eVar 0) (aCons (eVar 1) aNil)) (List.set [some (opq a), some (.int m), z, none] 3 (some x)) s = .ok (encL r, s1) := by simp [e1]
      rw [ec]
      simp only [nox_ok, bind_ok]
      rw [e2]
      rfl
    · rcases List.mem_cons.mp ht with e | h
      · rw [e]; exact ⟨r1, r2⟩
      · exact q2 t h
theorem sort_marks {ns : List (Bool × Int)} (hl : ns.length ≤ 2) (hf : ∀ q ∈ ns, FarOk q) : ∃ ns' : List (Bool × Int), sortSetD (.list (ns.map encN)) = some (.list (ns'.map encN)) ∧ ns'.length ≤ 2 ∧ (∀ q ∈ ns', FarOk q) ∧ ∀ x y, ns' = [x, y] → pLt (endS x.1) x.2 (endS y.1) y.2 = true := by
  match ns, hl, hf with
  | [], _, _ => exact ⟨[], rfl, by simp, (fun _ h => nomatch h), fun x y h => by cases h⟩
  | [q], _, hf => exact ⟨[q], rfl, by simp, hf, fun x y h => by cases h⟩
  | [q, r], _, hf =>
    have e0 : sortSetD (.list [encN q, encN r]) = some (.list (if endS q.1 = endS r.1 ∧ q.2 = r.2 then [encN q] else if pLt (endS q.1) q.2 (endS r.1) r.2 = true then [encN q, encN r] else [encN r, encN q])) := rfl
    by_cases h1 : endS q.1 = endS r.1 ∧ q.2 = r.2
    · refine ⟨[q], ?_, by simp, fun x hx => hf x (by simp at hx; rw [hx]; simp), fun x y h => by cases h⟩
      show sortSetD (.list [encN q, encN r]) = _
      rw [e0, if_pos h1]
      rfl
    · by_cases h2 : pLt (endS q.1) q.2 (endS r.1) r.2 = true
      · refine ⟨[q, r], ?_, by simp, hf, fun x y h => by cases h; exact h2⟩
        show sortSetD (.list [encN q, encN r]) = _
        rw [e0, if_neg h1, if_pos h2]
        rfl
      · refine ⟨[r, q], ?_, by simp, fun x hx => hf x (by simp at hx ⊢; rcases hx with h | h <;> simp [h]), fun x y h => ?_⟩
        · show sortSetD (.list [encN q, encN r]) = _
          rw [e0, if_neg h1, if_neg h2]
          rfl
        · cases h
          have := pLt_cases (x := endS q.1) (i := q.2) (y := endS r.1) (j := r.2) h1
          rw [this]
          simpa using h2
  | _ :: _ :: _ :: _, hl, _ => simp at hl
theorem m_plot_ok (a : Addr) {s : List D} (hs : St s) : ∃ (P : Plan) (s' : List D), m__law_plot a [opq a] s = .ok (P.enc, s') ∧ P.Ok ∧ St s' := by
  obtain ⟨k, s1, e1, k0, k1, hs1⟩ := m_wind_ok a (many := 4) (by omega) (by omega) hs
  obtain ⟨t, s2, e2, t0, t1, hs2⟩ := m_wind_ok a (many := 3) (by omega) (by omega) hs1
  obtain ⟨tn, rfl⟩ : ∃ j : Nat, t = j := ⟨t.toNat, by omega⟩
  obtain ⟨m, em⟩ : ∃ m : Nat, 1 + k = m := ⟨(1 + k).toNat, by omega⟩
  have r1 := rng1_nat (m := tn) (by omega)
  have r2 := rng1_nat (m := m) (by omega)
  obtain ⟨ns, s3, x', hs3, n1, n2, n3⟩ := mark_loop a m ((List.range tn).map fun (i : Nat) => .int (i : Int)) [] .un s2 hs2 (by simp; omega) (fun _ h => nomatch h)
  simp at n1
  obtain ⟨ns', q1, q2, q3, q4⟩ := sort_marks (ns := ns) (by omega) n2
  obtain ⟨rs, s4, e4, l1, l2, hs4⟩ := row_lc a (m := m) (by omega) (by omega) (some (.list (ns.map encN))) ((List.range m).map fun (i : Nat) => .int (i : Int)) s3 hs3
  simp at l1
  refine ⟨⟨rs, ns'⟩, s4, ?_, ⟨by show 1 ≤ rs.length; omega, by show rs.length ≤ 4; omega, fun r hr => (l2 r hr).1, fun r hr s k hc => ?_, q2, q3, q4⟩, hs4⟩
  · have w1 : ∀ x : L, wpR (vw (fz [2] [.d (opq a), .d (.int (m : Int)), .own (.lst (ns.map encN)), x])) [3] = [some (opq a), some (.int (m : Int)), some (.list (ns.map encN)), none] := fun x => by
      cases x <;> simp [s_fz, wpR, vw, frz]
    have m6 : m ≤ 1000000 := by omega
    have tl : ∀ xs : List D, tupleD [.list xs] = some (.tuple xs) := fun _ => rfl
    have v0 : (vw (fz [2] [.d (opq a), .d (.int (m : Int)), .own (.lst (ns.map encN)), x']))[0]? = some (some (opq a)) := by simp [s_fz]
    have v1 : (vw (fz [2] [.d (opq a), .d (.int (m : Int)), .own (.lst (ns.map encN)), x']))[1]? = some (some (.int (m : Int))) := by simp [s_fz]
    have v2 : (vw (fz [2] [.d (opq a), .d (.int (m : Int)), .own (.lst (ns.map encN)), x']))[2]? = some (some (.list (ns.map encN))) := by simp [s_fz]
    have fin : gRet [2] (eTupS (aCons (eCB tupleD (aCons (eLc (wRng rng1 (aCons (eVar 1) aNil)) [3] (rtN 3) tYesD (eCallS a m__law_row (aCons (eVar 0) (aCons (eVar 1) aNil)))) aNil)) (aCons (eCB tupleD (aCons (eUn sortSetD (eVar 2)) aNil)) aNil))) [.d (opq a), .d (.int (m : Int)), .own (.lst (ns.map encN)), x'] s3 = .rt (Plan.enc ⟨rs, ns'⟩) s4 := by
      rw [s_gRet]
      generalize hv : vw (fz [2] [.d (opq a), .d (.int (m : Int)), .own (.lst (ns.map encN)), x']) = ρv at v0 v1 v2
      have w2 := w1 x'
      rw [hv] at w2
      simp [v1, v2, wRng, r2, eLc, m6, w2, e4, tl, q1, Plan.enc]
    simp at n3
    simp [m__law_plot, g__law_plot, s_runS, e1, e2, em, wRng, r1]
    rw [n3]
    simp only [seq_nx]
    rw [fin]
    rfl
  · exact (l2 r hr).2 _ hc s k rfl |>.imp id fun h => ⟨h.1, by show k < rs.length; omega⟩
end Lw
end

section
set_option Elab.async false
set_option linter.all false
set_option maxRecDepth 100000
set_option maxHeartbeats 4000000
/-! The plain law: what is refused, and how an attempt tells it. -/
namespace DL
open PySem PySem.Spec PyProof.Rows L2
def invN : Exn := ⟨"InvalidNumber", none⟩
def invP : Exn := ⟨"InvalidPlan", none⟩
def invF : Exn := ⟨"InvalidFrame", none⟩
theorem kd_N : kdM invN = .ok (.tuple [.str "InvalidNumber +"]) := by kernel_rfl
theorem kd_P : kdM invP = .ok (.tuple [.str "InvalidPlan +"]) := by kernel_rfl
theorem kd_F : kdM invF = .ok (.tuple [.str "InvalidFrame +"]) := by kernel_rfl
theorem ne_N : neD (.tuple [.str "InvalidNumber +"]) (.tuple [.str "InvalidNumber +"]) = some (.bool false) := by kernel_rfl
theorem ne_P : neD (.tuple [.str "InvalidPlan +"]) (.tuple [.str "InvalidPlan +"]) = some (.bool false) := by kernel_rfl
theorem ne_F : neD (.tuple [.str "InvalidFrame +"]) (.tuple [.str "InvalidFrame +"]) = some (.bool false) := by kernel_rfl
@[simp] theorem s_isiNo {t : Ty} : isiD t .none = some (.bool (isiB .none t)) := rfl
@[simp] theorem s_isiBo {b : Bool} {t : Ty} : isiD t (.bool b) = some (.bool (isiB (.bool b) t)) := rfl
end DL
namespace Lw
open PySem PySem.Spec PyProof.Rows L2 DL
/-- what is no whole number -/
def NoInt : D → Prop
  | .none => True
  | .bool _ => True
  | .str _ => True
  | .list _ => True
  | .tuple _ => True
  | _ => False
theorem m_is_int_no {d lo hi : D} (h : NoInt d) : m_is_int [d, lo, hi] = .ok (.bool false) := by
  cases d with
  | none => simp [m_is_int, g_is_int, s_runF, isiB]
  | bool b => simp [m_is_int, g_is_int, s_runF, isiB]
  | str x => simp [m_is_int, g_is_int, s_runF, isiB]
  | list x => simp [m_is_int, g_is_int, s_runF, isiB]
  | tuple x => simp [m_is_int, g_is_int, s_runF, isiB]
  | _ => cases h
theorem m_need_plan_ok {P : Plan} (ok : P.Ok) : m_need_plan [P.enc] = .ok .none := by
  simp [m_need_plan, g_need_plan, s_runF, m_is_plan_ok ok]
theorem m_need_plan_bad {d : D} (h : m_is_plan [d] = .ok (.bool false)) : m_need_plan [d] = .ex invP := by
  simp [m_need_plan, g_need_plan, s_runF, h, invP]
theorem call_ok {f : Addr} {m : List D → R D} {d : D} (h : m [] = .ok d) : m__law_call f m [] = .ok (.tuple [.str "told", d]) := by
  unfold m__law_call runP
  rw [s_runF]
  unfold g__law_call
  show (gSeq _ _ [L.d (opq f), .un, .un] []).out = _
  rw [kstep (ρ' := [L.d (opq f), L.d .none, .un]) (s' := []) (by simp)]
  have hc : gAsg [] (eTupS (aCons (eC (.str "told")) (aCons (eCallF f 0 m aNil) aNil))) (tgN 1) [L.d (opq f), L.d .none, .un] [] = .nx [L.d (opq f), L.d (.tuple [.str "told", d]), .un] [] := by
    simp [eCallF, h]
  rw [kstep (ρ' := [L.d (opq f), L.d (.tuple [.str "told", d]), .un]) (s' := []) (by unfold gTryK8; rw [hc])]
  simp
theorem call_ex {f : Addr} {m : List D → R D} {e : Exn} {d : D} (h : m [] = .ex e) (k : kdM8 e = .ok d) : m__law_call f m [] = .ok d := by
  unfold m__law_call runP
  rw [s_runF]
  unfold g__law_call
  show (gSeq _ _ [L.d (opq f), .un, .un] []).out = _
  rw [kstep (ρ' := [L.d (opq f), L.d .none, .un]) (s' := []) (by simp)]
  have hc : gAsg [] (eTupS (aCons (eC (.str "told")) (aCons (eCallF f 0 m aNil) aNil))) (tgN 1) [L.d (opq f), L.d .none, .un] [] = .ex e := by
    simp [eCallF, h]
  rw [kstep (ρ' := [L.un, L.d d, .un]) (s' := []) (by unfold gTryK8; rw [hc]; simp only [k]; rfl)]
  simp
theorem lam_ok {js : List Nat} {lm : List D → List D → R D} {cs : List D} {ρ : Rho} {s : List D} {d : D} (hc : capD ρ js = some cs) (hm : lm cs [] = .ok d) : eCallLam m__law_call aNil js lm ρ s = .ok (.tuple [.str "told", d], s) := by
  unfold eCallLam
  simp only [s_aNil, bind_ok, hc]
  rw [if_pos fun f => (call_ok hm).trans (call_ok hm).symm, call_ok hm]
  rfl
theorem lam_ex {js : List Nat} {lm : List D → List D → R D} {cs : List D} {ρ : Rho} {s : List D} {e : Exn} {d : D} (hc : capD ρ js = some cs) (hm : lm cs [] = .ex e) (k : kdM8 e = .ok d) : eCallLam m__law_call aNil js lm ρ s = .ok (d, s) := by
  unfold eCallLam
  simp only [s_aNil, bind_ok, hc]
  rw [if_pos fun f => (call_ex hm k).trans (call_ex hm k).symm, call_ex hm k]
  rfl
/-- if _law_call(lambda: ..) != (..): return False -/
theorem lam_if {js : List Nat} {lm : List D → List D → R D} {cs : List D} {ρ : List L} {s : List D} {e : Exn} {d : D} {w : EM} (hc : capD (vw ρ) js = some cs) (hm : lm cs [] = .ex e) (k : kdM8 e = .ok d) (hw : w (vw ρ) s = .ok (d, s)) (hn : neD d d = some (.bool false)) :
    gIf [] (tE (eOp neD (eCallLam m__law_call aNil js lm) w)) (gRet [] (eC (.bool false))) gNext ρ s = .nx ρ s := by
  simp [lam_ex hc hm k, hw, hn]
/-- a call of a slot that holds one of two functions that answer alike -/
theorem callT2 {a b : Addr} {m1 m2 : List D → R D} {i : Nat} {h : AM} {ρ : Rho} {s s' : List D} {x : D} {ds : List D} {e : Exn} (hx : ρ[i]? = some (some x)) (hab : x = opq a ∨ x = opq b) (hh : h ρ s = .ok (ds, s')) (h1 : m1 ds = .ex e) (h2 : m2 ds = .ex e) :
    eCallT ((a, m1) :: ((b, m2) :: [])) i h ρ s = .ex e := by
  have t : ∃ z, tblF ((a, m1) :: ((b, m2) :: [])) x = some z ∧ z.2 ds = .ex e := by
    unfold tblF
    rw [List.find?_cons]
    cases q : isSp a x with
    | true => exact ⟨_, rfl, h1⟩
    | false =>
      rcases hab with rfl | rfl
      · rw [isSp_self] at q; cases q
      · rw [List.find?_cons]
        simp only [isSp_self]
        exact ⟨_, rfl, h2⟩
  obtain ⟨z, tz, hz⟩ := t
  unfold eCallT
  rw [hx]
  simp only [tz, hh, bind_ok, hz, bind_ex]
end Lw
end

section
set_option Elab.async false
set_option linter.all false
set_option maxRecDepth 100000
set_option maxHeartbeats 4000000
/-! The plain law: what is a plan, asked of any value. -/
namespace DL
open PySem PySem.Spec PyProof.Rows L2
theorem lcF_mapD {e : EM} {g : D → D} {i : Nat} {ρ : Rho} {s : List D} : ∀ {ds : List D}, (∀ x ∈ ds, e (ρ.set i (some x)) s = .ok (g x, s)) → lcF (rtN i) tYesD e ds ρ s = .ok (ds.map g, s)
  | [], _ => rfl
  | x :: xs, h => by
    have ih := lcF_mapD (ds := xs) (e := e) (g := g) (i := i) (ρ := ρ) (s := s) fun y hy => h y (List.mem_cons_of_mem _ hy)
    rw [lcF]
    simp only [rtN, tYesD, nox_ok, bind_ok, if_true]
    rw [h x List.mem_cons_self]
    simp only [nox_ok, bind_ok]
    rw [ih]
    rfl
theorem lcF_filter {c : TM} {p : D → Bool} {i j : Nat} {ρ : Rho} {s : List D} (hj : ∀ x, (ρ.set i (some x))[j]? = some (some x)) : ∀ {ds : List D}, (∀ x ∈ ds, c (ρ.set i (some x)) s = .ok (p x, s)) → lcF (rtN i) c (eVar j) ds ρ s = .ok (ds.filter p, s)
  | [], _ => rfl
  | x :: xs, h => by
    have ih := lcF_filter (ds := xs) (c := c) (p := p) (i := i) (j := j) (ρ := ρ) (s := s) hj fun y hy => h y (List.mem_cons_of_mem _ hy)
    rw [lcF]
    simp only [rtN]
    rw [h x List.mem_cons_self]
    simp only [nox_ok, bind_ok]
    cases hp : p x with
    | true =>
      simp only [if_true, s_eVar, hj, nox_ok, bind_ok]
      rw [ih, List.filter_cons_of_pos hp]
      rfl
    | false =>
      simp only [Bool.false_eq_true, if_false]
      rw [ih, List.filter_cons_of_neg (by rw [hp]; exact Bool.false_ne_true)]
theorem plainAll_mem : ∀ {ds : List D}, (∀ d ∈ ds, d.plain = true) → PyData.plainAll ds = true
  | [], _ => rfl
  | d :: ds, h => by
    rw [PyData.plainAll, h d List.mem_cons_self, plainAll_mem fun x hx => h x (List.mem_cons_of_mem _ hx)]
    rfl
theorem eqv_nil (xs : List D) : PyData.eqv (.list xs) (.list []) = xs.isEmpty := by
  cases xs <;> simp [PyData.eqv, PyData.eqvAll]
theorem pln_nil {xs : List D} (h : PyData.plainAll xs = true) : pln (.list xs) (.list []) = true := by
  unfold pln shal
  have p1 : (PyData.list xs).plain = true := by rw [PyData.plain]; exact h
  have p2 : (PyData.list []).depth ≤ 64 := by decide
  rw [p1, decide_eq_true p2, Bool.or_true]
  rfl
theorem eq_nilL {xs : List D} (h : PyData.plainAll xs = true) : eqD (.list xs) (.list []) = some (.bool xs.isEmpty) := by
  unfold eqD
  rw [pln_nil h, if_pos rfl, eqv_nil]
theorem ne_nilL {xs : List D} (h : PyData.plainAll xs = true) : neD (.list xs) (.list []) = some (.bool (!xs.isEmpty)) := by
  unfold neD
  rw [pln_nil h, if_pos rfl, eqv_nil]
theorem filter_empty {p : D → Bool} {ds : List D} : (ds.filter fun x => !p x).isEmpty = ds.all p := by
  induction ds with
  | nil => rfl
  | cons d ds ih =>
    cases hp : p d with
    | true => rw [List.filter_cons_of_neg (by simp [hp]), ih, List.all_cons, hp, Bool.true_and]
    | false => rw [List.filter_cons_of_pos (by simp [hp]), List.all_cons, hp, Bool.false_and]; rfl
/-- data without dicts, of bounded depth, widths, numbers -/
inductive Gd (B : Nat) : Nat → D → Prop
  | non {n : Nat} : Gd B n .none
  | bl {n : Nat} (b : Bool) : Gd B n (.bool b)
  | int {n : Nat} {i : Int} : i.natAbs ≤ 10 ^ 38 + B → Gd B n (.int i)
  | str {n : Nat} {x : Str} : x.length ≤ 1000 + B → Gd B n (.str x)
  | lst {n : Nat} {ds : List D} : ds.length ≤ 20 + B → (∀ d ∈ ds, Gd B n d) → Gd B (n + 1) (.list ds)
  | tup {n : Nat} {ds : List D} : ds.length ≤ 20 + B → (∀ d ∈ ds, Gd B n d) → Gd B (n + 1) (.tuple ds)
theorem Gd.mono {B B' n : Nat} {d : D} (h : Gd B n d) (hb : B ≤ B') : ∀ {n' : Nat}, n ≤ n' → Gd B' n' d := by
  induction h with
  | non => exact fun _ => .non
  | bl b => exact fun _ => .bl b
  | int h => exact fun _ => .int (by omega)
  | str h => exact fun _ => .str (by omega)
  | lst h1 h2 ih =>
    intro n' hn
    obtain ⟨m, rfl⟩ : ∃ m, n' = m + 1 := ⟨n' - 1, by omega⟩
    exact .lst (by omega) fun d hd => ih d hd (by omega)
  | tup h1 h2 ih =>
    intro n' hn
    obtain ⟨m, rfl⟩ : ∃ m, n' = m + 1 := ⟨n' - 1, by omega⟩
    exact .tup (by omega) fun d hd => ih d hd (by omega)
theorem Gd.plain {B n : Nat} {d : D} (h : Gd B n d) : d.plain = true := by
  induction h with
  | non => rfl
  | bl b => rfl
  | int h => rfl
  | str h => rfl
  | lst h1 h2 ih => rw [PyData.plain]; exact plainAll_mem ih
  | tup h1 h2 ih => rw [PyData.plain]; exact plainAll_mem ih
theorem Gd.all {B n : Nat} {ds : List D} (h : ∀ d ∈ ds, Gd B n d) : PyData.plainAll ds = true := plainAll_mem fun d hd => (h d hd).plain
end DL
namespace Lw
open PySem PySem.Spec PyProof.Rows L2 DL
def inI (lo hi : Int) : D → Bool
  | .int i => decide (lo ≤ i) && decide (i ≤ hi)
  | _ => false
theorem m_is_int_any {B n : Nat} {d : D} (h : Gd B n d) (lo hi : Int) : m_is_int [d, .int lo, .int hi] = .ok (.bool (inI lo hi d)) := by
  cases h with
  | int h => exact m_is_int_eq _ _ _
  | _ => exact m_is_int_no trivial
def isActB (m : Int) : D → Bool
  | .none => true
  | .tuple [x, y] => inI (-2) 2 x && inI 0 (m - 1) y
  | _ => false
theorem isActB_no {m : Int} {ds : List D} (h : ds.length ≠ 2) : isActB m (.tuple ds) = false := by
  match ds, h with
  | [], _ => rfl
  | [_], _ => rfl
  | [_, _], h => exact absurd rfl h
  | _ :: _ :: _ :: _, _ => rfl
theorem len2D {ds : List D} (h : ds.length = 2) : ∃ x y, ds = [x, y] := by
  match ds, h with
  | [x, y], _ => exact ⟨x, y, rfl⟩
theorem m_is_action_any {B n : Nat} {d : D} (h : Gd B n d) (m : Int) : m_is_action [d, .int m] = .ok (.bool (isActB m d)) := by
  cases h with
  | non => simp [m_is_action, g_is_action, s_runF, isActB]
  | bl b => simp [m_is_action, g_is_action, s_runF, isActB, isiB]
  | int h => simp [m_is_action, g_is_action, s_runF, isActB, isiB]
  | str h => simp [m_is_action, g_is_action, s_runF, isActB, isiB]
  | lst h1 h2 => simp [m_is_action, g_is_action, s_runF, isActB, isiB]
  | @tup n ds h1 h2 =>
    by_cases hl : ds.length = 2
    · obtain ⟨x, y, rfl⟩ := len2D hl
      have e1 := m_is_int_any (h2 x (by simp)) (-2) 2
      have e2 := m_is_int_any (h2 y (by simp)) 0 (m - 1)
      cases hb : inI (-2) 2 x <;> simp [m_is_action, g_is_action, s_runF, isActB, isiB, s_neI, e1, e2, hb]
    · have hl' : ¬ ((ds.length : Int) = 2) := by omega
      rw [isActB_no hl]
      simp [m_is_action, g_is_action, s_runF, isiB, s_neI, hl']
def isLineB (m : Int) : D → Bool
  | .tuple ds => decide (ds.length = 4) && ds.all (isActB m)
  | _ => false
theorem all_map {p : D → Bool} (ds : List D) : allD [.list (ds.map fun x => .bool (p x))] = some (.bool (ds.all p)) := allD_map (p := p) ds
theorem m_is_line_any {B n : Nat} (hB : B ≤ 1000) {d : D} (h : Gd B n d) (m : Int) : m_is_line [d, .int m] = .ok (.bool (isLineB m d)) := by
  cases h with
  | non => simp [m_is_line, g_is_line, s_runF, isLineB, isiB]
  | bl b => simp [m_is_line, g_is_line, s_runF, isLineB, isiB]
  | int h => simp [m_is_line, g_is_line, s_runF, isLineB, isiB]
  | str h => simp [m_is_line, g_is_line, s_runF, isLineB, isiB]
  | lst h1 h2 => simp [m_is_line, g_is_line, s_runF, isLineB, isiB]
  | @tup n ds h1 h2 =>
    by_cases hl : ds.length = 4
    · have w : wpR [some (PyData.tuple ds), some (.int m), none] [2] = [some (.tuple ds), some (.int m), none] := by simp [wpR]
      have key := lcF_mapD (e := eCall m_is_action (aCons (eVar 2) (aCons (eVar 1) aNil))) (g := fun x => .bool (isActB m x)) (i := 2) (ρ := [some (.tuple ds), some (.int m), none]) (s := []) (ds := ds) (fun x hx => by
        simp [m_is_action_any (h2 x hx) m])
      have ha := all_map (p := isActB m) ds
      simp [m_is_line, g_is_line, s_runF, isLineB, isiB, s_eqI, hl, eLc, wSeq, itemsOf, w, key, ha]
    · have hl' : ¬ ((ds.length : Int) = 4) := by omega
      simp [m_is_line, g_is_line, s_runF, isLineB, isiB, s_eqI, hl, hl']
def isNotB : D → Bool
  | .tuple [.str x, y] => ([PyData.str "head", .str "tail"].any fun z => PyData.eqv z (.str x)) && inI 1 4 y
  | _ => false
theorem in_ends (x : Str) : inD (.str x) (.tuple [.str "head", .str "tail"]) = some (.bool ([PyData.str "head", .str "tail"].any fun z => PyData.eqv z (.str x))) := by
  have hp : pln (.str x) (.tuple [.str "head", .str "tail"]) = true := rfl
  unfold inD
  simp only [itemsOf, Option.bind_some]
  rw [hp, if_pos rfl]
theorem isNotB_no {ds : List D} (h : ds.length ≠ 2) : isNotB (.tuple ds) = false := by
  match ds, h with
  | [], _ => rfl
  | [.none], _ => rfl
  | [.bool _], _ => rfl
  | [.int _], _ => rfl
  | [.str _], _ => rfl
  | [.list _], _ => rfl
  | [.tuple _], _ => rfl
  | [.dict _], _ => rfl
  | [_, _], h => exact absurd rfl h
  | .none :: _ :: _ :: _, _ => rfl
  | .bool _ :: _ :: _ :: _, _ => rfl
  | .int _ :: _ :: _ :: _, _ => rfl
  | .str _ :: _ :: _ :: _, _ => rfl
  | .list _ :: _ :: _ :: _, _ => rfl
  | .tuple _ :: _ :: _ :: _, _ => rfl
  | .dict _ :: _ :: _ :: _, _ => rfl
theorem isNotB_str {x y : D} (h : isiB x .str = false) : isNotB (.tuple [x, y]) = false := by
  cases x <;> first | rfl | (simp [isiB] at h)
theorem Gd.notDict {B n : Nat} {d : D} (h : Gd B n d) : notDict d = true := by cases h <;> rfl
theorem isi_any {B n : Nat} {d : D} (h : Gd B n d) (t : Ty) : isiD t d = some (.bool (isiB d t)) := by
  unfold isiD
  rw [Gd.notDict h, if_pos rfl]
theorem m_is_notch_any {B n : Nat} {d : D} (h : Gd B n d) : m_is_notch [d] = .ok (.bool (isNotB d)) := by
  cases h with
  | non => simp [m_is_notch, g_is_notch, s_runF, isNotB, isiB]
  | bl b => simp [m_is_notch, g_is_notch, s_runF, isNotB, isiB]
  | int h => simp [m_is_notch, g_is_notch, s_runF, isNotB, isiB]
  | str h => simp [m_is_notch, g_is_notch, s_runF, isNotB, isiB]
  | lst h1 h2 => simp [m_is_notch, g_is_notch, s_runF, isNotB, isiB]
  | @tup n ds h1 h2 =>
    by_cases hl : ds.length = 2
    · obtain ⟨x, y, rfl⟩ := len2D hl
      have hx := h2 x (by simp)
      have e0 := isi_any hx .str
      have e2 := m_is_int_any (h2 y (by simp)) 1 4
      cases hb : isiB x .str with
      | false =>
        rw [isNotB_str hb]
        rw [hb] at e0
        simp [m_is_notch, g_is_notch, s_runF, isiB, s_neI, e0]
      | true =>
        rw [hb] at e0
        cases hx with
        | @str _ z hz =>
          have ei := in_ends z
          rw [show isNotB (.tuple [.str z, y]) = (([PyData.str "head", .str "tail"].any fun z' => PyData.eqv z' (.str z)) && inI 1 4 y) from rfl]
          generalize ([PyData.str "head", .str "tail"].any fun w => PyData.eqv w (.str z)) = bb at ei ⊢
          cases bb <;> simp [m_is_notch, g_is_notch, s_runF, isiB, s_neI, e0, ei, e2]
        | _ => simp [isiB] at hb
    · have hl' : ¬ ((ds.length : Int) = 2) := by omega
      rw [isNotB_no hl]
      simp [m_is_notch, g_is_notch, s_runF, isiB, s_neI, hl']
/-- a notch that is one -/
theorem notB_enc {d : D} (h : isNotB d = true) : ∃ q : Bool × Int, d = encN q ∧ 1 ≤ q.2 ∧ q.2 ≤ 4 := by
  unfold isNotB at h
  split at h
  · rename_i x y
    obtain ⟨h1, h2⟩ := band h
    cases y with
    | int i =>
      simp only [inI, Bool.and_eq_true, decide_eq_true_eq] at h2
      simp only [List.any_cons, List.any_nil, PyData.eqv, Bool.or_false, Bool.or_eq_true, beq_iff_eq] at h1
      rcases h1 with h1 | h1
      · exact ⟨(true, i), by rw [← h1]; rfl, h2.1, h2.2⟩
      · exact ⟨(false, i), by rw [← h1]; rfl, h2.1, h2.2⟩
    | _ => simp [inI] at h2
  · cases h
end Lw
end

section
set_option Elab.async false
set_option linter.all false
set_option maxRecDepth 100000
set_option maxHeartbeats 4000000
/-! The plain law: what is a plan by the law's words, asked of any value; the two agree. -/
namespace Lw
open PySem PySem.Spec PyProof.Rows L2 DL
theorem m_lwhole_any {B n : Nat} {d : D} (h : Gd B n d) (lo hi : Int) : m__law_is_whole [d, .int lo, .int hi] = .ok (.bool (inI lo hi d)) := by
  cases h with
  | @int _ i h =>
    by_cases h1 : lo ≤ i
    · simp [m__law_is_whole, g__law_is_whole, s_runF, isiB, inI, h1]
    · simp [m__law_is_whole, g__law_is_whole, s_runF, isiB, inI, h1]
  | non => simp [m__law_is_whole, g__law_is_whole, s_runF, isiB, inI]
  | bl b => simp [m__law_is_whole, g__law_is_whole, s_runF, isiB, inI]
  | str h => simp [m__law_is_whole, g__law_is_whole, s_runF, isiB, inI]
  | lst h1 h2 => simp [m__law_is_whole, g__law_is_whole, s_runF, isiB, inI]
  | tup h1 h2 => simp [m__law_is_whole, g__law_is_whole, s_runF, isiB, inI]
theorem m_ldeed_any {B n : Nat} {d : D} (h : Gd B n d) (m : Int) : m__law_is_deed [d, .int m] = .ok (.bool (isActB m d)) := by
  cases h with
  | non => simp [m__law_is_deed, g__law_is_deed, s_runF, isActB]
  | bl b => simp [m__law_is_deed, g__law_is_deed, s_runF, isActB, isiB]
  | int h => simp [m__law_is_deed, g__law_is_deed, s_runF, isActB, isiB]
  | str h => simp [m__law_is_deed, g__law_is_deed, s_runF, isActB, isiB]
  | lst h1 h2 => simp [m__law_is_deed, g__law_is_deed, s_runF, isActB, isiB]
  | @tup n ds h1 h2 =>
    by_cases hl : ds.length = 2
    · obtain ⟨x, y, rfl⟩ := len2D hl
      have e1 := m_lwhole_any (h2 x (by simp)) (-2) 2
      have e2 := m_lwhole_any (h2 y (by simp)) 0 (m - 1)
      cases hb : inI (-2) 2 x <;> simp [m__law_is_deed, g__law_is_deed, s_runF, isActB, isiB, s_neI, e1, e2, hb, negD]
    · have hl' : ¬ ((ds.length : Int) = 2) := by omega
      rw [isActB_no hl]
      simp [m__law_is_deed, g__law_is_deed, s_runF, isiB, s_neI, hl']
theorem lc_not {w : WM} {c : TM} {p : D → Bool} {i : Nat} {ρ : Rho} {s : List D} {ds : List D} (hw : w ρ s = .ok (ds, s)) (hl : ds.length ≤ 1000000) (hi : i < ρ.length) (h : ∀ x ∈ ds, c ((wpR ρ [i]).set i (some x)) s = .ok (!p x, s)) :
    eLc w [i] (rtN i) c (eVar i) ρ s = .ok (.list (ds.filter fun x => !p x), s) := by
  have key := lcF_filter (c := c) (p := fun x => !p x) (i := i) (j := i) (ρ := wpR ρ [i]) (s := s) (fun x => List.getElem?_set_self (by unfold wpR; rw [List.length_mapIdx]; exact hi)) (ds := ds) h
  rw [s_eLcA, hw]
  simp only [bind_ok]
  rw [if_pos (show small ds.length = true from decide_eq_true hl), key]
  rfl
theorem filter_plain {p : D → Bool} {ds : List D} (h : ∀ d ∈ ds, d.plain = true) : PyData.plainAll (ds.filter p) = true := plainAll_mem fun d hd => h d (List.mem_filter.mp hd).1
theorem m_lrow_any {B n : Nat} (hB : B ≤ 1000) {d : D} (h : Gd B n d) (m : Int) : m__law_is_row [d, .int m] = .ok (.bool (isLineB m d)) := by
  cases h with
  | non => simp [m__law_is_row, g__law_is_row, s_runF, isLineB, isiB]
  | bl b => simp [m__law_is_row, g__law_is_row, s_runF, isLineB, isiB]
  | int h => simp [m__law_is_row, g__law_is_row, s_runF, isLineB, isiB]
  | str h => simp [m__law_is_row, g__law_is_row, s_runF, isLineB, isiB]
  | lst h1 h2 => simp [m__law_is_row, g__law_is_row, s_runF, isLineB, isiB]
  | @tup n ds h1 h2 =>
    by_cases hl : ds.length = 4
    · have lc := lc_not (p := isActB m) (i := 2) (c := tNo (tE (eCall m__law_is_deed (aCons (eVar 2) (aCons (eVar 1) aNil))))) (w := wSeq (eVar 0)) (ρ := [some (.tuple ds), some (.int m), none]) (s := []) (ds := ds) rfl (by omega) (by simp) (fun x hx => by
        have e : (wpR [some (PyData.tuple ds), some (PyData.int m), none] [2]).set 2 (some x) = [some (.tuple ds), some (.int m), some x] := by simp [wpR]
        rw [e]
        simp [m_ldeed_any (h2 x hx) m])
      have en := eq_nilL (filter_plain (p := fun x => !isActB m x) fun d hd => (h2 d hd).plain)
      rw [filter_empty] at en
      unfold m__law_is_row
      rw [s_runF]
      unfold g__law_is_row
      show (gSeq _ _ [.d (.tuple ds), .d (.int m), .un] []).out = _
      rw [kstep (ρ' := [.d (.tuple ds), .d (.int m), .un]) (s' := []) (by simp [isiB, hl, s_neI])]
      rw [s_gRet, s_fz0]
      show (exprS ((eLc _ _ _ _ _ [some (.tuple ds), some (.int m), none] []).bind fun z => (eLstS aNil [some (.tuple ds), some (.int m), none] z.2).bind fun y => ofO (eqD z.1 y.1) y.2) _).out = _
      rw [lc]
      simp [en, isLineB, hl]
    · have hl' : ¬ ((ds.length : Int) = 4) := by omega
      simp [m__law_is_row, g__law_is_row, s_runF, isLineB, isiB, s_neI, hl, hl']
theorem m_lmark_any {B n : Nat} {d : D} (h : Gd B n d) : m__law_is_mark [d] = .ok (.bool (isNotB d)) := by
  cases h with
  | non => simp [m__law_is_mark, g__law_is_mark, s_runF, isNotB, isiB]
  | bl b => simp [m__law_is_mark, g__law_is_mark, s_runF, isNotB, isiB]
  | int h => simp [m__law_is_mark, g__law_is_mark, s_runF, isNotB, isiB]
  | str h => simp [m__law_is_mark, g__law_is_mark, s_runF, isNotB, isiB]
  | lst h1 h2 => simp [m__law_is_mark, g__law_is_mark, s_runF, isNotB, isiB]
  | @tup n ds h1 h2 =>
    by_cases hl : ds.length = 2
    · obtain ⟨x, y, rfl⟩ := len2D hl
      have hx := h2 x (by simp)
      have e0 := isi_any hx .str
      have e2 := m_lwhole_any (h2 y (by simp)) 1 4
      cases hb : isiB x .str with
      | false =>
        rw [isNotB_str hb]
        rw [hb] at e0
        simp [m__law_is_mark, g__law_is_mark, s_runF, isiB, s_neI, e0]
      | true =>
        rw [hb] at e0
        cases hx with
        | @str _ z hz =>
          have ei := in_ends z
          rw [show isNotB (.tuple [.str z, y]) = (([PyData.str "head", .str "tail"].any fun z' => PyData.eqv z' (.str z)) && inI 1 4 y) from rfl]
          generalize ([PyData.str "head", .str "tail"].any fun w => PyData.eqv w (.str z)) = bb at ei ⊢
          cases bb <;> simp [m__law_is_mark, g__law_is_mark, s_runF, isiB, s_neI, e0, ei, e2]
        | _ => simp [isiB] at hb
    · have hl' : ¬ ((ds.length : Int) = 2) := by omega
      rw [isNotB_no hl]
      simp [m__law_is_mark, g__law_is_mark, s_runF, isiB, s_neI, hl']
/-! ### the end: two marks in order -/
def srtB : List D → Bool
  | [a, b] => (match a, b with
    | .tuple [.str x, .int i], .tuple [.str y, .int j] => pLt x i y j
    | _, _ => false)
  | _ => true
theorem marks_enc : ∀ {ns : List D}, ns.all isNotB = true → ∃ qs : List (Bool × Int), ns = qs.map encN ∧ ∀ q ∈ qs, 1 ≤ q.2 ∧ q.2 ≤ 4
  | [], _ => ⟨[], rfl, fun _ h => nomatch h⟩
  | d :: ns, h => by
    rw [List.all_cons, Bool.and_eq_true] at h
    obtain ⟨q, rfl, h1⟩ := notB_enc h.1
    obtain ⟨qs, rfl, h2⟩ := marks_enc h.2
    exact ⟨q :: qs, rfl, fun x hx => by
      rcases List.mem_cons.mp hx with rfl | hx
      · exact h1
      · exact h2 x hx⟩
theorem srt_prog {ns : List D} (h : ns.all isNotB = true) (hl : ns.length ≤ 2) (x0 x1 x3 x4 x5 : Option D) : eCB allD (aCons (eLc (wZip (aCons (eVar 2) (aCons (eSl (eVar 2) (oSome (eC (.int 1))) oNone) aNil))) [3, 4] (rtT 2 (rtsCons (rtN 3) (rtsCons (rtN 4) rtsNil))) tYesD (eOp ltPD (eVar 3) (eVar 4))) aNil)
      [x0, x1, some (.tuple ns), x3, x4, x5] [] = .ok (.bool (srtB ns), []) := by
  obtain ⟨qs, rfl, hq⟩ := marks_enc h
  rw [List.length_map] at hl
  match qs, hl with
  | [], _ => rfl
  | [(b, f)], _ => rfl
  | [(b, f), (c, g)], _ =>
    have e1 : ltPD (encN (b, f)) (encN (c, g)) = some (.bool (pLt (endS b) f (endS c) g)) := rfl
    have e2 : slD (.tuple [encN (b, f), encN (c, g)]) (some 1) none = some (.tuple [encN (c, g)]) := rfl
    have e3 : srtB [encN (b, f), encN (c, g)] = pLt (endS b) f (endS c) g := rfl
    simp [eLc, wZip, wRng, eSl, oSome, oNone, isI, e2, zip2, zipD, lcF, rtT, rtsCons, rtsNil, rtN, tYesD, wpR, e1, e3, allD, boolsOf]
  | _ :: _ :: _ :: _, hl => simp at hl
theorem eqv_encN (b c : Bool) (f g : Int) : PyData.eqv (encN (b, f)) (encN (c, g)) = (decide (endS b = endS c) && decide (f = g)) := by
  simp only [encN, PyData.eqv, PyData.eqvAll, Bool.and_true]
  cases b <;> cases c <;> simp [endS, beq_dec]
theorem srt_law {ns : List D} (h : ns.all isNotB = true) (hl : ns.length ≤ 2) : ∃ zs, sortSetTD (.tuple ns) = some (.list zs) ∧ eqD (.list ns) (.list zs) = some (.bool (srtB ns)) := by
  obtain ⟨qs, rfl, hq⟩ := marks_enc h
  rw [List.length_map] at hl
  match qs, hl with
  | [], _ => exact ⟨[], rfl, by kernel_rfl⟩
  | [(b, f)], _ =>
    refine ⟨[encN (b, f)], rfl, ?_⟩
    show eqD (.list [encN (b, f)]) (.list [encN (b, f)]) = some (.bool true)
    have hp : pln (.list [encN (b, f)]) (.list [encN (b, f)]) = true := rfl
    unfold eqD
    rw [hp, if_pos rfl]
    simp [PyData.eqv, PyData.eqvAll, encN]
  | [(b, f), (c, g)], _ =>
    have e0 : sortSetTD (.tuple [encN (b, f), encN (c, g)]) = some (.list (if endS b = endS c ∧ f = g then [encN (b, f)] else if pLt (endS b) f (endS c) g = true then [encN (b, f), encN (c, g)] else [encN (c, g), encN (b, f)])) := rfl
    have e3 : srtB [encN (b, f), encN (c, g)] = pLt (endS b) f (endS c) g := rfl
    refine ⟨_, e0, ?_⟩
    show eqD (.list [encN (b, f), encN (c, g)]) _ = some (.bool (srtB [encN (b, f), encN (c, g)]))
    rw [e3]
    by_cases h1 : endS b = endS c ∧ f = g
    · rw [if_pos h1]
      have hp : pln (.list [encN (b, f), encN (c, g)]) (.list [encN (b, f)]) = true := rfl
      have hf : pLt (endS b) f (endS c) g = false := by
        unfold pLt
        rw [if_pos h1.1, h1.2]
        simp
      unfold eqD
      rw [hp, if_pos rfl, hf]
      simp [PyData.eqv, PyData.eqvAll]
    · rw [if_neg h1]
      by_cases h2 : pLt (endS b) f (endS c) g = true
      · rw [if_pos h2, h2]
        have hp : pln (.list [encN (b, f), encN (c, g)]) (.list [encN (b, f), encN (c, g)]) = true := rfl
        unfold eqD
        rw [hp, if_pos rfl]
        simp [PyData.eqv, PyData.eqvAll, eqv_encN]
      · rw [if_neg h2]
        have hf : pLt (endS b) f (endS c) g = false := by simpa using h2
        have hp : pln (.list [encN (b, f), encN (c, g)]) (.list [encN (c, g), encN (b, f)]) = true := rfl
        have hn : (decide (endS b = endS c) && decide (f = g)) = false := by
          rw [Bool.and_eq_false_iff]
          by_cases h3 : endS b = endS c
          · right; exact decide_eq_false fun z => h1 ⟨h3, z⟩
          · left; exact decide_eq_false h3
        unfold eqD
        rw [hp, if_pos rfl, hf]
        simp only [PyData.eqv, PyData.eqvAll, eqv_encN, hn, Bool.false_and]
  | _ :: _ :: _ :: _, hl => simp at hl
end Lw
end

section
set_option Elab.async false
set_option linter.all false
set_option maxRecDepth 100000
set_option maxHeartbeats 4000000
/-! The plain law: the program's look and the law's look agree on any value. -/
namespace Lw
open PySem PySem.Spec PyProof.Rows L2 DL
def rowsB (ls : List D) : Bool := ls.all (isLineB (ls.length : Int))
def isPlanB : D → Bool
  | .tuple [.tuple ls, .tuple ns] => (decide (1 ≤ (ls.length : Int)) && decide ((ls.length : Int) ≤ 4)) && (rowsB ls && (decide (ns.length ≤ 2) && (ns.all isNotB && srtB ns)))
  | _ => false
theorem isPlanB_no {ds : List D} (h : ds.length ≠ 2) : isPlanB (.tuple ds) = false := by
  unfold isPlanB
  split
  · rename_i ls ns e
    have e' := PyData.tuple.inj e
    rw [e'] at h
    exact absurd rfl h
  · rfl
theorem isPlanB_1 {x y : D} (h : isiB x .tuple = false) : isPlanB (.tuple [x, y]) = false := by
  cases x <;> first | rfl | (simp [isiB] at h)
theorem isPlanB_2 {ls : List D} {y : D} (h : isiB y .tuple = false) : isPlanB (.tuple [.tuple ls, y]) = false := by
  cases y <;> first | rfl | (simp [isiB] at h)
theorem isPlanB_eq (ls ns : List D) : isPlanB (.tuple [.tuple ls, .tuple ns]) = ((decide (1 ≤ (ls.length : Int)) && decide ((ls.length : Int) ≤ 4)) && (rowsB ls && (decide (ns.length ≤ 2) && (ns.all isNotB && srtB ns)))) := rfl
theorem isiT_inv {B n : Nat} {d : D} (h : Gd B n d) (t : isiB d .tuple = true) : ∃ ds m, d = .tuple ds ∧ n = m + 1 ∧ ds.length ≤ 20 + B ∧ ∀ x ∈ ds, Gd B m x := by
  cases h with
  | @tup m ds h1 h2 => exact ⟨ds, m, rfl, rfl, h1, h2⟩
  | _ => simp [isiB] at t
theorem m_plan_any {B n : Nat} (hB : B ≤ 1000) {d : D} (h : Gd B n d) : m_is_plan [d] = .ok (.bool (isPlanB d)) := by
  cases h with
  | non => simp [m_is_plan, g_is_plan, s_runF, isPlanB, isiB]
  | bl b => simp [m_is_plan, g_is_plan, s_runF, isPlanB, isiB]
  | int h => simp [m_is_plan, g_is_plan, s_runF, isPlanB, isiB]
  | str h => simp [m_is_plan, g_is_plan, s_runF, isPlanB, isiB]
  | lst h1 h2 => simp [m_is_plan, g_is_plan, s_runF, isPlanB, isiB]
  | @tup n ds h1 h2 =>
    by_cases hl : ds.length = 2
    · obtain ⟨x, y, rfl⟩ := len2D hl
      have hx := h2 x (by simp)
      have hy := h2 y (by simp)
      have ex := isi_any hx .tuple
      have ey := isi_any hy .tuple
      unfold m_is_plan
      rw [s_runF]
      unfold g_is_plan
      show (gSeq _ _ [.d (.tuple [x, y]), .un, .un, .un, .un, .un] []).out = _
      rw [kstep (ρ' := [.d (.tuple [x, y]), .un, .un, .un, .un, .un]) (s' := []) (by simp [isiB, s_neI])]
      rw [kstep (ρ' := [.d (.tuple [x, y]), .d x, .d y, .un, .un, .un]) (s' := []) (by simp)]
      cases tx : isiB x .tuple with
      | false =>
        rw [tx] at ex
        rw [isPlanB_1 tx]
        simp [ex]
      | true =>
        obtain ⟨ls, m, rfl, rfl, l1, l2⟩ := isiT_inv hx tx
        have hll : ls.length ≤ 1000000 := by omega
        cases hc : (decide (1 ≤ (ls.length : Int)) && decide ((ls.length : Int) ≤ 4)) with
        | false =>
          have e : isPlanB (.tuple [.tuple ls, y]) = false := by
            cases y with
            | tuple ns => rw [isPlanB_eq, hc]; rfl
            | _ => rfl
          rw [e]
          rw [s_gSeq, s_gIf, s_fz0]
          have t : tOrr (tNo (tE (eUn (isiD .tuple) (eVar 1)))) (tNo (tE (eChain leD leD (eC (.int 1)) (eCB lenD (aCons (eVar 1) aNil)) (eC (.int 4))))) (vw [.d (.tuple [.tuple ls, y]), .d (.tuple ls), .d y, .un, .un, .un]) [] = .ok (true, []) := by
            by_cases q1 : 1 ≤ (ls.length : Int)
            · simp only [q1, decide_true, Bool.true_and] at hc
              have q1' : 1 ≤ ls.length := by omega
              have q2 : ¬ ((ls.length : Int) ≤ 4) := of_decide_eq_false hc
              have q2' : ¬ (ls.length ≤ 4) := by omega
              simp [isiB, q1, q2, q1', q2']
            · have q1' : ¬ (1 ≤ ls.length) := by omega
              simp [isiB, q1, q1']
          rw [t]
          simp
        | true =>
          obtain ⟨c1, c2⟩ := band hc
          have c1 := of_decide_eq_true c1
          have c2 := of_decide_eq_true c2
          have key := lcF_mapD (e := eCall m_is_line (aCons (eVar 5) (aCons (eCB lenD (aCons (eVar 1) aNil)) aNil))) (g := fun r => .bool (isLineB (ls.length : Int) r)) (i := 5) (ρ := [some (.tuple [.tuple ls, y]), some (.tuple ls), some y, none, none, none]) (s := []) (ds := ls) (fun r hr => by
            simp [m_is_line_any hB (l2 r hr)])
          have w1 : wpR [some (PyData.tuple [.tuple ls, y]), some (.tuple ls), some y, none, none, none] [5] = [some (.tuple [.tuple ls, y]), some (.tuple ls), some y, none, none, none] := by simp [wpR]
          have a1 := all_map (p := isLineB (ls.length : Int)) ls
          rw [kstep (ρ' := [.d (.tuple [.tuple ls, y]), .d (.tuple ls), .d y, .un, .un, .un]) (s' := []) (by
            have c1' : 1 ≤ ls.length := by omega
            have c2' : ls.length ≤ 4 := by omega
            simp [isiB, c1, c2, c1', c2'])]
          have tall : tNo (tE (eCB allD (aCons (eLc (wSeq (eVar 1)) [5] (rtN 5) tYesD (eCall m_is_line (aCons (eVar 5) (aCons (eCB lenD (aCons (eVar 1) aNil)) aNil)))) aNil))) (vw [.d (.tuple [.tuple ls, y]), .d (.tuple ls), .d y, .un, .un, .un]) [] = .ok (!rowsB ls, []) := by
            simp [eLc, wSeq, itemsOf, hll, w1, key, a1, rowsB]
          cases hr : rowsB ls with
          | false =>
            have e : isPlanB (.tuple [.tuple ls, y]) = false := by
              cases y with
              | tuple ns => rw [isPlanB_eq, hc, hr]; rfl
              | _ => rfl
            rw [e, s_gSeq, s_gIf, s_fz0, tall, hr]
            simp
          | true =>
            rw [kstep (ρ' := [.d (.tuple [.tuple ls, y]), .d (.tuple ls), .d y, .un, .un, .un]) (s' := []) (by
              rw [s_gIf, s_fz0, tall, hr]
              simp)]
            cases ty : isiB y .tuple with
            | false =>
              rw [ty] at ey
              rw [isPlanB_2 ty]
              simp [ey]
            | true =>
              obtain ⟨ns, m2, rfl, _, n1, n2⟩ := isiT_inv hy ty
              have hnl : ns.length ≤ 1000000 := by omega
              by_cases q2 : ns.length ≤ 2
              · have q2' : ¬ ((2 : Int) < (ns.length : Int)) := by omega
                have key2 := lcF_mapD (e := eCall m_is_notch (aCons (eVar 3) aNil)) (g := fun r => .bool (isNotB r)) (i := 3) (ρ := [some (.tuple [.tuple ls, .tuple ns]), some (.tuple ls), some (.tuple ns), none, none, none]) (s := []) (ds := ns) (fun r hr => by
                  simp [m_is_notch_any (n2 r hr)])
                have w2 : wpR [some (PyData.tuple [.tuple ls, .tuple ns]), some (.tuple ls), some (.tuple ns), none, none, none] [3] = [some (.tuple [.tuple ls, .tuple ns]), some (.tuple ls), some (.tuple ns), none, none, none] := by simp [wpR]
                have a2 := all_map (p := isNotB) ns
                have t : tOrr (tNo (tE (eUn (isiD .tuple) (eVar 2)))) (tOrr (tE (eOp gtD (eCB lenD (aCons (eVar 2) aNil)) (eC (.int 2)))) (tNo (tE (eCB allD (aCons (eLc (wSeq (eVar 2)) [3] (rtN 3) tYesD (eCall m_is_notch (aCons (eVar 3) aNil))) aNil))))) (vw [.d (.tuple [.tuple ls, .tuple ns]), .d (.tuple ls), .d (.tuple ns), .un, .un, .un]) [] = .ok (!ns.all isNotB, []) := by
                  simp [isiB, q2', eLc, wSeq, itemsOf, hnl, w2, key2, a2]
                rw [isPlanB_eq, hc, hr, decide_eq_true q2]
                cases hn : ns.all isNotB with
                | false =>
                  rw [s_gSeq, s_gIf, s_fz0, t, hn]
                  simp
                | true =>
                  rw [kstep (ρ' := [.d (.tuple [.tuple ls, .tuple ns]), .d (.tuple ls), .d (.tuple ns), .un, .un, .un]) (s' := []) (by
                    rw [s_gIf, s_fz0, t, hn]
                    simp)]
                  rw [s_gRet, s_fz0]
                  show (exprS (eCB allD _ [some (.tuple [.tuple ls, .tuple ns]), some (.tuple ls), some (.tuple ns), none, none, none] []) _).out = _
                  rw [srt_prog hn q2]
                  simp
              · have q2' : (2 : Int) < (ns.length : Int) := by omega
                rw [isPlanB_eq, hc, hr, decide_eq_false q2]
                simp [isiB, q2']
    · have hl' : ¬ ((ds.length : Int) = 2) := by omega
      rw [isPlanB_no hl]
      simp [m_is_plan, g_is_plan, s_runF, isiB, s_neI, hl']
theorem m_lplan_any {B n : Nat} (hB : B ≤ 1000) {d : D} (h : Gd B n d) : m__law_is_plot [d] = .ok (.bool (isPlanB d)) := by
  cases h with
  | non => simp [m__law_is_plot, g__law_is_plot, s_runF, isPlanB, isiB]
  | bl b => simp [m__law_is_plot, g__law_is_plot, s_runF, isPlanB, isiB]
  | int h => simp [m__law_is_plot, g__law_is_plot, s_runF, isPlanB, isiB]
  | str h => simp [m__law_is_plot, g__law_is_plot, s_runF, isPlanB, isiB]
  | lst h1 h2 => simp [m__law_is_plot, g__law_is_plot, s_runF, isPlanB, isiB]
  | @tup n ds h1 h2 =>
    by_cases hl : ds.length = 2
    · obtain ⟨x, y, rfl⟩ := len2D hl
      have hx := h2 x (by simp)
      have hy := h2 y (by simp)
      have ex := isi_any hx .tuple
      have ey := isi_any hy .tuple
      unfold m__law_is_plot
      rw [s_runF]
      unfold g__law_is_plot
      show (gSeq _ _ [.d (.tuple [x, y]), .un, .un, .un] []).out = _
      cases tx : isiB x .tuple with
      | false =>
        rw [tx] at ex
        rw [isPlanB_1 tx]
        simp [isiB, s_neI, ex]
      | true =>
        obtain ⟨ls, m, rfl, rfl, l1, l2⟩ := isiT_inv hx tx
        have hll : ls.length ≤ 1000000 := by omega
        rw [kstep (ρ' := [.d (.tuple [.tuple ls, y]), .un, .un, .un]) (s' := []) (by simp [isiB, s_neI])]
        rw [kstep (ρ' := [.d (.tuple [.tuple ls, y]), .d (.int (ls.length : Int)), .un, .un]) (s' := []) (by simp)]
        have lc := lc_not (p := isLineB (ls.length : Int)) (i := 3) (c := tNo (tE (eCall m__law_is_row (aCons (eVar 3) (aCons (eVar 1) aNil))))) (w := wSeq (eOp ixD (eVar 0) (eC (.int 0)))) (ρ := [some (.tuple [.tuple ls, y]), some (.int (ls.length : Int)), none, none]) (s := []) (ds := ls) rfl hll (by simp) (fun r hr => by
          have e : (wpR [some (PyData.tuple [.tuple ls, y]), some (PyData.int (ls.length : Int)), none, none] [3]).set 3 (some r) = [some (.tuple [.tuple ls, y]), some (.int (ls.length : Int)), none, some r] := by simp [wpR]
          rw [e]
          simp [m_lrow_any hB (l2 r hr)])
        have en := ne_nilL (filter_plain (p := fun r => !isLineB (ls.length : Int) r) fun r hr => (l2 r hr).plain)
        rw [filter_empty] at en
        have t : tOrr (tNo (tE (eChain leD leD (eC (.int 1)) (eVar 1) (eC (.int 4))))) (tE (eOp neD (eLc (wSeq (eOp ixD (eVar 0) (eC (.int 0)))) [3] (rtN 3) (tNo (tE (eCall m__law_is_row (aCons (eVar 3) (aCons (eVar 1) aNil))))) (eVar 3)) (eLstS aNil))) [some (.tuple [.tuple ls, y]), some (.int (ls.length : Int)), none, none] [] = .ok (!((decide (1 ≤ (ls.length : Int)) && decide ((ls.length : Int) ≤ 4)) && rowsB ls), []) := by
          have t1 : tNo (tE (eChain leD leD (eC (.int 1)) (eVar 1) (eC (.int 4)))) [some (.tuple [.tuple ls, y]), some (.int (ls.length : Int)), none, none] [] = .ok (!(decide (1 ≤ (ls.length : Int)) && decide ((ls.length : Int) ≤ 4)), []) := by
            by_cases q1 : 1 ≤ (ls.length : Int)
            · have q1' : 1 ≤ ls.length := by omega
              simp [q1, q1']
            · have q1' : ¬ (1 ≤ ls.length) := by omega
              simp [q1, q1']
          rw [s_tOrr, t1]
          cases hc : (decide (1 ≤ (ls.length : Int)) && decide ((ls.length : Int) ≤ 4)) with
          | false => simp
          | true =>
            simp only [bind_ok, Bool.not_true, Bool.false_eq_true, if_false, Bool.true_and]
            rw [s_tE, s_eOp, lc]
            simp only [bind_ok, s_eLstS, s_aNil]
            simp [en, rowsB]
        cases hc : ((decide (1 ≤ (ls.length : Int)) && decide ((ls.length : Int) ≤ 4)) && rowsB ls) with
        | false =>
          have e : isPlanB (.tuple [.tuple ls, y]) = false := by
            cases y with
            | tuple ns => rw [isPlanB_eq, ← Bool.and_assoc, hc]; rfl
            | _ => rfl
          rw [e, s_gSeq, s_gIf, s_fz0]
          show ((exprS (tOrr _ _ [some (.tuple [.tuple ls, y]), some (.int (ls.length : Int)), none, none] []) _).seq _).out = _
          rw [t, hc]
          simp
        | true =>
          rw [kstep (ρ' := [.d (.tuple [.tuple ls, y]), .d (.int (ls.length : Int)), .un, .un]) (s' := []) (by
            rw [s_gIf, s_fz0]
            show exprS (tOrr _ _ [some (.tuple [.tuple ls, y]), some (.int (ls.length : Int)), none, none] []) _ = _
            rw [t, hc]
            simp)]
          cases ty : isiB y .tuple with
          | false =>
            rw [ty] at ey
            rw [isPlanB_2 ty]
            simp [ey]
          | true =>
            obtain ⟨ns, m2, rfl, _, n1, n2⟩ := isiT_inv hy ty
            have hnl : ns.length ≤ 1000000 := by omega
            rw [isPlanB_eq, ← Bool.and_assoc, hc, Bool.true_and]
            by_cases q2 : ns.length ≤ 2
            · have q2' : ¬ ((2 : Int) < (ns.length : Int)) := by omega
              rw [decide_eq_true q2, Bool.true_and]
              rw [kstep (ρ' := [.d (.tuple [.tuple ls, .tuple ns]), .d (.int (ls.length : Int)), .un, .un]) (s' := []) (by simp [isiB, q2'])]
              have lc2 := lc_not (p := isNotB) (i := 2) (c := tNo (tE (eCall m__law_is_mark (aCons (eVar 2) aNil)))) (w := wSeq (eOp ixD (eVar 0) (eC (.int 1)))) (ρ := [some (.tuple [.tuple ls, .tuple ns]), some (.int (ls.length : Int)), none, none]) (s := []) (ds := ns) rfl hnl (by simp) (fun r hr => by
                have e : (wpR [some (PyData.tuple [.tuple ls, .tuple ns]), some (PyData.int (ls.length : Int)), none, none] [2]).set 2 (some r) = [some (.tuple [.tuple ls, .tuple ns]), some (.int (ls.length : Int)), some r, none] := by simp [wpR]
                rw [e]
                simp [m_lmark_any (n2 r hr)])
              have en2 := ne_nilL (filter_plain (p := fun r => !isNotB r) fun r hr => (n2 r hr).plain)
              rw [filter_empty] at en2
              have t2 : tE (eOp neD (eLc (wSeq (eOp ixD (eVar 0) (eC (.int 1)))) [2] (rtN 2) (tNo (tE (eCall m__law_is_mark (aCons (eVar 2) aNil)))) (eVar 2)) (eLstS aNil)) [some (.tuple [.tuple ls, .tuple ns]), some (.int (ls.length : Int)), none, none] [] = .ok (!ns.all isNotB, []) := by
                rw [s_tE, s_eOp, lc2]
                simp only [bind_ok, s_eLstS, s_aNil]
                simp [en2]
              cases hn : ns.all isNotB with
              | false =>
                rw [s_gSeq, s_gIf, s_fz0]
                show ((exprS (tE _ [some (.tuple [.tuple ls, .tuple ns]), some (.int (ls.length : Int)), none, none] []) _).seq _).out = _
                rw [t2, hn]
                simp
              | true =>
                rw [kstep (ρ' := [.d (.tuple [.tuple ls, .tuple ns]), .d (.int (ls.length : Int)), .un, .un]) (s' := []) (by
                  rw [s_gIf, s_fz0]
                  show exprS (tE _ [some (.tuple [.tuple ls, .tuple ns]), some (.int (ls.length : Int)), none, none] []) _ = _
                  rw [t2, hn]
                  simp)]
                obtain ⟨zs, e1, e2⟩ := srt_law hn q2
                have ld : listD [.tuple ns] = some (.list ns) := rfl
                simp [ld, e1, e2]
            · have q2' : (2 : Int) < (ns.length : Int) := by omega
              rw [decide_eq_false q2, Bool.false_and]
              simp [isiB, q2']
    · have hl' : ¬ ((ds.length : Int) = 2) := by omega
      rw [isPlanB_no hl]
      simp [m__law_is_plot, g__law_is_plot, s_runF, isiB, s_neI, hl']
end Lw
end

section
set_option Elab.async false
set_option linter.all false
set_option maxRecDepth 100000
set_option maxHeartbeats 4000000
/-! The plain law: texts of plans. -/
namespace DL
open PySem PySem.Spec PyProof.Rows L2
@[simp] theorem s_eSplit {fa fb : EM} {ρ : Rho} {s : List D} : eSplit fa fb ρ s = (fa ρ s).bind fun x => if isStr x.1 then (fb ρ x.2).bind fun y => ofO (splitD x.1 y.1) y.2 else .un := rfl
@[simp] theorem s_eJoin {fa fb : EM} {ρ : Rho} {s : List D} : eJoin fa fb ρ s = (fa ρ s).bind fun x => if isStr x.1 then (fb ρ x.2).bind fun y => ofO (joinD x.1 y.1) y.2 else .un := rfl
@[simp] theorem s_isStr {x : Str} : isStr (.str x) = true := rfl
theorem strsOf_map : ∀ ys : List Str, strsOf (ys.map .str) = some ys
  | [] => rfl
  | y :: ys => by rw [List.map_cons, strsOf, strsOf_map ys]; rfl
theorem join_some {x : Str} {ys : List Str} (h : (ys.map (·.length)).sum + ys.length * x.length ≤ 1000000) : joinD (.str x) (.list (ys.map .str)) = some (.str (Txt.join x ys)) := by
  show ((strsOf (ys.map .str)).bind fun ys => if decide ((ys.map (·.length)).sum + ys.length * x.length ≤ 1000000) then some (PyData.str (Txt.join x ys)) else none) = _
  rw [strsOf_map]
  show (if decide ((ys.map (·.length)).sum + ys.length * x.length ≤ 1000000) = true then some (PyData.str (Txt.join x ys)) else none) = _
  rw [if_pos (decide_eq_true h)]
theorem split_some {x y : Str} (hy : y.length ≠ 0) (hx : x.length ≤ 1000000) : splitD (.str x) (.str y) = some (.list ((Txt.split x y).map .str)) := by
  show (if (decide (y.length ≠ 0) && small x.length) = true then some (PyData.list ((Txt.split x y).map .str)) else none) = _
  rw [decide_eq_true hy, show small x.length = true from decide_eq_true hx]
  rfl
end DL
namespace Lw
open PySem PySem.Spec PyProof.Rows L2 DL
def wordA : Act → Str
  | none => "-"
  | some (s, k) => (toString s : Str) ++ ":" ++ (toString (k : Int) : Str)
/-- no blank, no line's end, not long -/
def Calm (x : Str) : Prop := 32 ∉ TL.tl x ∧ 10 ∉ TL.tl x ∧ x.length ≤ 20
instance (x : Str) : Decidable (Calm x) := by unfold Calm; infer_instance
theorem deeds (P : Act → Prop) (h0 : P none) (h : ∀ s ∈ [(-2 : Int), -1, 0, 1, 2], ∀ k ∈ [0, 1, 2, 3], P (some (s, k))) {m : Nat} (hm : m ≤ 4) {c : Act} (hc : ∀ s k, c = some (s, k) → -2 ≤ s ∧ s ≤ 2 ∧ k < m) : P c := by
  cases c with
  | none => exact h0
  | some x =>
    obtain ⟨s, k⟩ := x
    obtain ⟨h1, h2, h3⟩ := hc s k rfl
    exact h s (by simp; omega) k (by simp; omega)
theorem word_calm {m : Nat} (hm : m ≤ 4) {c : Act} (hc : ∀ s k, c = some (s, k) → -2 ≤ s ∧ s ≤ 2 ∧ k < m) : Calm (wordA c) :=
  deeds (fun c => Calm (wordA c)) (by decide +kernel) (by decide +kernel) hm hc
theorem m_word_eq {m : Nat} (hm : m ≤ 4) {c : Act} (hc : ∀ s k, c = some (s, k) → -2 ≤ s ∧ s ≤ 2 ∧ k < m) : m_word_of [encA c] = .ok (.str (wordA c)) :=
  deeds (fun c => m_word_of [encA c] = .ok (.str (wordA c))) (by kernel_rfl) (fun s hs k hk => by
    simp only [List.mem_cons, List.not_mem_nil, or_false] at hs hk
    rcases hs with rfl | rfl | rfl | rfl | rfl <;> rcases hk with rfl | rfl | rfl | rfl <;> kernel_rfl) hm hc
theorem m_action_in_eq {m : Nat} (hm : m ≤ 4) {c : Act} (hc : ∀ s k, c = some (s, k) → -2 ≤ s ∧ s ≤ 2 ∧ k < m) : m_action_in [.str (wordA c)] = .ok (encA c) :=
  deeds (fun c => m_action_in [.str (wordA c)] = .ok (encA c)) (by kernel_rfl) (fun s hs k hk => by
    simp only [List.mem_cons, List.not_mem_nil, or_false] at hs hk
    rcases hs with rfl | rfl | rfl | rfl | rfl <;> rcases hk with rfl | rfl | rfl | rfl <;> kernel_rfl) hm hc
def lineS (r : List Act) : Str := "line " ++ Txt.join " " (r.map wordA)
def notS (q : Bool × Int) : Str := "notch " ++ endS q.1 ++ " " ++ (toString q.2 : Str)
def rowsS (P : Plan) : List Str := P.lines.map lineS ++ P.notches.map notS
def textS (P : Plan) : Str := Txt.join "\n" (rowsS P)
/-! lengths, signs -/
theorem joinL_len (S : List Nat) : ∀ ps : List (List Nat), (TL.joinL S ps).length ≤ (ps.map List.length).sum + ps.length * S.length
  | [] => Nat.zero_le _
  | [p] => by simp [TL.joinL]
  | p :: q :: r => by
    have := joinL_len S (q :: r)
    simp only [TL.joinL, List.length_append, List.map_cons, List.sum_cons, List.length_cons] at this ⊢
    have e : (r.length + 1 + 1) * S.length = (r.length + 1) * S.length + S.length := Nat.succ_mul _ _
    omega
theorem joinL_not {c : Nat} {S : List Nat} (hS : c ∉ S) : ∀ {ps : List (List Nat)}, (∀ p ∈ ps, c ∉ p) → c ∉ TL.joinL S ps
  | [], _ => by simp [TL.joinL]
  | [p], h => by simpa [TL.joinL] using h p List.mem_cons_self
  | p :: q :: r, h => by
    have ih := joinL_not hS (ps := q :: r) fun x hx => h x (List.mem_cons_of_mem _ hx)
    simp only [TL.joinL, List.mem_append, not_or]
    exact ⟨h p List.mem_cons_self, hS, ih⟩
theorem tl_joinT (y : Str) (ps : List Str) : TL.tl (Txt.join y ps) = TL.joinL (TL.tl y) (ps.map TL.tl) := by rw [TL.join_eq, TL.tl_join]
theorem join_len (y : Str) (ps : List Str) : (Txt.join y ps).length ≤ (ps.map (·.length)).sum + ps.length * y.length := by
  have h := joinL_len (TL.tl y) (ps.map TL.tl)
  rw [← tl_joinT, List.map_map, List.length_map] at h
  rw [TL.len_tl, TL.len_tl y]
  have e : ps.map (List.length ∘ TL.tl) = ps.map (·.length) := List.map_congr_left fun x _ => (TL.len_tl x).symm
  rw [e] at h
  exact h
theorem line_join {r : List Act} (h : r ≠ []) : lineS r = Txt.join " " ("line" :: r.map wordA) := by
  apply TL.ext_tl
  cases r with
  | nil => exact absurd rfl h
  | cons a r =>
    unfold lineS
    rw [TL.tl_append, tl_joinT, tl_joinT]
    have e : TL.tl ("line " : Str) = TL.tl ("line" : Str) ++ TL.tl (" " : Str) := by decide +kernel
    rw [e, List.append_assoc]
    rfl
theorem sum_le {xs : List Nat} {b : Nat} (h : ∀ x ∈ xs, x ≤ b) : xs.sum ≤ xs.length * b := by
  induction xs with
  | nil => simp
  | cons x xs ih =>
    have h1 := h x List.mem_cons_self
    have h2 := ih fun y hy => h y (List.mem_cons_of_mem _ hy)
    rw [List.sum_cons, List.length_cons, Nat.succ_mul]
    omega
def RowOk (r : List Act) : Prop := r.length = 4 ∧ ∀ c ∈ r, ∀ s k, c = some (s, k) → -2 ≤ s ∧ s ≤ 2 ∧ k < 4
theorem rowOk {P : Plan} (ok : P.Ok) {r : List Act} (hr : r ∈ P.lines) : RowOk r := ⟨ok.four r hr, fun c hc s k e => by
  have := ok.act r hr s k (e ▸ hc)
  have := ok.most
  omega⟩
theorem words_calm {r : List Act} (h : RowOk r) : ∀ x ∈ r.map wordA, Calm x := fun x hx => by
  obtain ⟨c, hc, rfl⟩ := List.mem_map.mp hx
  exact word_calm (m := 4) (by decide) (h.2 c hc)
theorem words_sum {r : List Act} (h : RowOk r) : ((r.map wordA).map (·.length)).sum + (r.map wordA).length * (" " : Str).length ≤ 100 := by
  have h1 := sum_le (xs := (r.map wordA).map (·.length)) (b := 20) fun x hx => by
    obtain ⟨w, hw, rfl⟩ := List.mem_map.mp hx
    exact (words_calm h w hw).2.2
  rw [List.length_map, List.length_map, h.1] at h1
  rw [List.length_map, h.1]
  have : (" " : Str).length = 1 := by decide +kernel
  omega
theorem line_len {r : List Act} (h : RowOk r) : (lineS r).length ≤ 110 := by
  unfold lineS
  have e : ("line " ++ Txt.join " " (r.map wordA) : Str).length = ("line " : Str).length + (Txt.join " " (r.map wordA)).length := by
    rw [TL.len_tl, TL.tl_append, List.length_append, ← TL.len_tl, ← TL.len_tl]
  rw [e]
  have h1 := join_len " " (r.map wordA)
  have h2 := words_sum h
  have h3 : ("line " : Str).length = 5 := by decide +kernel
  omega
theorem line_split {r : List Act} (h : RowOk r) : Txt.split (lineS r) " " = ("line" : Str) :: r.map wordA := by
  rw [line_join (fun e => by have := h.1; rw [e] at this; simp at this)]
  exact TL.split_join (s := 32) (S := []) (by decide +kernel) (by decide +kernel) (by simp) fun p hp => by
    rcases List.mem_cons.mp hp with rfl | hp
    · decide +kernel
    · exact (words_calm h p hp).1
theorem line_no10 {r : List Act} (h : RowOk r) : 10 ∉ TL.tl (lineS r) := by
  unfold lineS
  rw [TL.tl_append, tl_joinT]
  refine fun z => (List.mem_append.mp z).elim (fun z => ?_) fun z => joinL_not (c := 10) (by decide +kernel) (fun p hp => ?_) z
  · exact absurd z (by decide +kernel)
  · obtain ⟨w, hw, rfl⟩ := List.mem_map.mp hp
    exact (words_calm h w hw).2.1
theorem nots (Q : Bool × Int → Prop) (h : ∀ b ∈ [true, false], ∀ k ∈ [(1 : Int), 2, 3, 4], Q (b, k)) {q : Bool × Int} (hq : 1 ≤ q.2 ∧ q.2 ≤ 4) : Q q := by
  obtain ⟨b, k⟩ := q
  simp only at hq
  exact h b (by cases b <;> simp) k (by simp; omega)
theorem not_calm {q : Bool × Int} (hq : 1 ≤ q.2 ∧ q.2 ≤ 4) : 10 ∉ TL.tl (notS q) ∧ (notS q).length ≤ 20 :=
  nots (fun q => 10 ∉ TL.tl (notS q) ∧ (notS q).length ≤ 20) (by decide +kernel) hq
theorem m_line_not {q : Bool × Int} (hq : 1 ≤ q.2 ∧ q.2 ≤ 4) : m_line_in [.str (notS q)] = .ok (.tuple [.str "notch", encN q]) :=
  nots (fun q => m_line_in [.str (notS q)] = .ok (.tuple [.str "notch", encN q])) (fun b hb k hk => by
    simp only [List.mem_cons, List.not_mem_nil, or_false] at hb hk
    rcases hb with rfl | rfl <;> rcases hk with rfl | rfl | rfl | rfl <;> kernel_rfl) hq
theorem m_line_line {r : List Act} (h : RowOk r) : m_line_in [.str (lineS r)] = .ok (.tuple [.str "line", encL r]) := by
  have sp := split_some (x := lineS r) (y := " ") (by decide +kernel) (Nat.le_trans (line_len h) (by decide))
  rw [line_split h, List.map_cons, List.map_map] at sp
  have key := lcF_map (e := eCall m_action_in (aCons (eVar 3) aNil)) (enc := fun c => .str (wordA c)) (g := encA) (i := 3) (ρ := [some (.str (lineS r)), some (.list (.str "line" :: r.map fun c => .str (wordA c))), none, none]) (s := []) (xs := r) (fun c hc => by
    simp [m_action_in_eq (m := 4) (by decide) (h.2 c hc)])
  have e1 : wpR [some (.str (lineS r)), some (.list (.str "line" :: r.map fun c => PyData.str (wordA c))), none, none] [3] = [some (.str (lineS r)), some (.list (.str "line" :: r.map fun c => .str (wordA c))), none, none] := by simp [wpR]
  have il : m_is_line [encL r, .int (4 : Nat)] = .ok (.bool true) := m_is_line_ok h.1 fun s k hc => h.2 _ hc s k rfl
  have sl : slD (.list (.str "line" :: r.map fun c => PyData.str (wordA c))) (some 1) none = some (.list (r.map fun c => .str (wordA c))) := by
    show some (PyData.list (DL.cutD _ (some ((1 : Nat) : Int)) none)) = _
    unfold DL.cutD
    rw [HT.sIx_nat, HT.sIx_none, Nat.min_eq_left (by simp)]
    simp
    exact List.take_of_length_le (by simp)
  have eq1 : eqD (.str "line") (.str "line") = some (.bool true) := by kernel_rfl
  have sl4 : (r.map fun c => PyData.str (wordA c)).length = 4 := by rw [List.length_map]; exact h.1
  have spm : PyData.str ∘ wordA = fun c => PyData.str (wordA c) := rfl
  rw [spm] at sp
  have tp : tupleD [.list (r.map encA)] = some (.tuple (r.map encA)) := rfl
  generalize (r.map fun c => PyData.str (wordA c)) = W at sp key e1 sl sl4
  have st1 : gAsg [] (eSplit (eVar 0) (eC (.str " "))) (tgN 1) [.d (.str (lineS r)), .un, .un, .un] [] = .nx [.d (.str (lineS r)), .d (.list (.str "line" :: W)), .un, .un] [] := by
    simp [sp]
  have lc : eLc (wSeq (eSl (eVar 1) (oSome (eC (.int 1))) oNone)) [3] (rtN 3) tYesD (eCall m_action_in (aCons (eVar 3) aNil)) [some (.str (lineS r)), some (.list (.str "line" :: W)), none, none] [] = .ok (.list (r.map encA), []) := by
    unfold eLc
    have w : wSeq (eSl (eVar 1) (oSome (eC (.int 1))) oNone) [some (.str (lineS r)), some (.list (.str "line" :: W)), none, none] [] = .ok (W, []) := by
      show ((ofO (slD (.list (.str "line" :: W)) (some 1) none) []).bind fun z => ofO (itemsOf z.1) z.2) = _
      rw [sl]
      rfl
    rw [w]
    simp only [bind_ok]
    rw [if_pos (show small W.length = true by rw [sl4]; rfl), e1, key]
    rfl
  unfold m_line_in
  rw [s_runF]
  unfold g_line_in
  show (gSeq _ _ [.d (.str (lineS r)), .un, .un, .un] []).out = _
  rw [s_gSeq, st1, seq_nx, s_gSeq, s_gIf]
  have t1 : tE (eOp eqD (eOp ixD (eVar 1) (eC (.int 0))) (eC (.str "line"))) (vw (fz [] [.d (.str (lineS r)), .d (.list (.str "line" :: W)), .un, .un])) [] = .ok (true, []) := by
    simp [eq1]
  rw [t1, exprS_ok]
  simp only [if_true]
  have st2 : gAsg [] (eCB tupleD (aCons (eLc (wSeq (eSl (eVar 1) (oSome (eC (.int 1))) oNone)) [3] (rtN 3) tYesD (eCall m_action_in (aCons (eVar 3) aNil))) aNil)) (tgN 2) [.d (.str (lineS r)), .d (.list (.str "line" :: W)), .un, .un] [] = .nx [.d (.str (lineS r)), .d (.list (.str "line" :: W)), .d (encL r), .un] [] := by
    rw [s_gAsg, s_fz0]
    show exprS (((eLc _ _ _ _ _ [some (.str (lineS r)), some (.list (.str "line" :: W)), none, none] []).bind fun z => (R.ok ([], z.2)).bind fun y => .ok (z.1 :: y.1, y.2)).bind fun z => ofO (tupleD z.1) z.2) _ = _
    rw [lc]
    simp only [bind_ok, tp, ofO_some, exprS_ok]
    rfl
  rw [s_gSeq, st2, seq_nx]
  have il' : m_is_line [encL r, .int 4] = .ok (.bool true) := il
  simp [il']
/-! ### a text read -/
theorem lcF_all {α : Type} {t : RtM} {c : TM} {e : EM} {ρ : Rho} {s : List D} {enc g : α → D} {rest zs : List D} (hr : lcF t c e rest ρ s = .ok (zs, s)) : ∀ xs : List α, (∀ x ∈ xs, ∃ ρ1, t (enc x) ρ = some ρ1 ∧ c ρ1 s = .ok (true, s) ∧ e ρ1 s = .ok (g x, s)) →
    lcF t c e (xs.map enc ++ rest) ρ s = .ok (xs.map g ++ zs, s)
  | [], _ => hr
  | x :: xs, h => by
    obtain ⟨ρ1, h1, h2, h3⟩ := h x List.mem_cons_self
    have ih := lcF_all (enc := enc) (g := g) hr xs fun y hy => h y (List.mem_cons_of_mem _ hy)
    rw [List.map_cons, List.cons_append, lcF, h1]
    simp only [h2, nox_ok, bind_ok, if_true, h3]
    rw [ih]
    rfl
theorem lcF_non {α : Type} {t : RtM} {c : TM} {e : EM} {ρ : Rho} {s : List D} {enc : α → D} {rest zs : List D} (hr : lcF t c e rest ρ s = .ok (zs, s)) : ∀ xs : List α, (∀ x ∈ xs, ∃ ρ1, t (enc x) ρ = some ρ1 ∧ c ρ1 s = .ok (false, s)) →
    lcF t c e (xs.map enc ++ rest) ρ s = .ok (zs, s)
  | [], _ => hr
  | x :: xs, h => by
    obtain ⟨ρ1, h1, h2⟩ := h x List.mem_cons_self
    have ih := lcF_non (enc := enc) hr xs fun y hy => h y (List.mem_cons_of_mem _ hy)
    rw [List.map_cons, List.cons_append, lcF, h1]
    simp only [h2, nox_ok, bind_ok, Bool.false_eq_true, if_false]
    exact ih
theorem plainAll_map {α : Type} {f : α → D} : ∀ {xs : List α}, (∀ x ∈ xs, (f x).plain = true) → PyData.plainAll (xs.map f) = true
  | [], _ => rfl
  | x :: xs, h => by
    rw [List.map_cons, PyData.plainAll, h x List.mem_cons_self, plainAll_map fun y hy => h y (List.mem_cons_of_mem _ hy)]
    rfl
theorem plainAll_app : ∀ {xs ys : List D}, PyData.plainAll xs = true → PyData.plainAll ys = true → PyData.plainAll (xs ++ ys) = true
  | [], _, _, h => h
  | x :: xs, ys, h, k => by
    rw [PyData.plainAll, Bool.and_eq_true] at h
    rw [List.cons_append, PyData.plainAll, h.1, plainAll_app h.2 k]
    rfl
theorem plain_act (c : Act) : (encA c).plain = true := by
  cases c with
  | none => rfl
  | some x => rfl
theorem plain_line (r : List Act) : (encL r).plain = true := by
  unfold encL
  rw [PyData.plain]
  exact plainAll_map fun c _ => plain_act c
theorem plain_plan (P : Plan) : P.enc.plain = true := by
  unfold Plan.enc
  rw [PyData.plain, PyData.plainAll, PyData.plainAll, PyData.plainAll, PyData.plain, PyData.plain, plainAll_map fun r _ => plain_line r, plainAll_map (f := encN) fun q _ => rfl]
  rfl
theorem depthAll_map {α : Type} {f : α → D} {b : Nat} : ∀ {xs : List α}, (∀ x ∈ xs, (f x).depth ≤ b) → PyData.depthAll (xs.map f) ≤ b
  | [], _ => Nat.zero_le _
  | x :: xs, h => by
    have h1 := h x List.mem_cons_self
    have h2 := depthAll_map (f := f) (xs := xs) (b := b) fun y hy => h y (List.mem_cons_of_mem _ hy)
    rw [List.map_cons, PyData.depthAll]
    exact Nat.max_le.mpr ⟨h1, h2⟩
theorem depth_plan (P : Plan) : P.enc.depth ≤ 64 := by
  have ha : ∀ c : Act, (encA c).depth ≤ 1 := fun c => by
    cases c with
    | none => exact Nat.zero_le _
    | some x => exact Nat.le_refl _
  have hl : ∀ r : List Act, (encL r).depth ≤ 2 := fun r => by
    unfold encL
    rw [PyData.depth]
    exact Nat.succ_le_succ (depthAll_map fun c _ => ha c)
  have h1 : (PyData.tuple (P.lines.map encL)).depth ≤ 3 := by
    rw [PyData.depth]
    exact Nat.succ_le_succ (depthAll_map fun r _ => hl r)
  have h2 : (PyData.tuple (P.notches.map encN)).depth ≤ 3 := by
    rw [PyData.depth]
    exact Nat.succ_le_succ (depthAll_map (b := 2) fun q _ => Nat.le_trans (Nat.le_of_eq (show (encN q).depth = 1 from rfl)) (by decide))
  unfold Plan.enc
  rw [PyData.depth, PyData.depthAll, PyData.depthAll, PyData.depthAll]
  omega
theorem pln_self {d : D} (h1 : d.plain = true) (h2 : d.depth ≤ 64) : pln d d = true := by
  unfold pln shal
  rw [h1, decide_eq_true h2]
  rfl
theorem ne_self {d : D} (h1 : d.plain = true) (h2 : d.depth ≤ 64) : neD d d = some (.bool false) := by
  unfold neD
  rw [pln_self h1 h2, if_pos rfl, PySem.SeqAt.eqv_refl_plain d h1]
  rfl
theorem eq_self' {d : D} (h1 : d.plain = true) (h2 : d.depth ≤ 64) : eqD d d = some (.bool true) := by
  unfold eqD
  rw [pln_self h1 h2, if_pos rfl, PySem.SeqAt.eqv_refl_plain d h1]
/-- a row: a line or a notch -/
abbrev Row := List Act ⊕ (Bool × Int)
theorem rows_split {P : Plan} (ok : P.Ok) : Txt.split (textS P) "\n" = rowsS P := by
  unfold textS
  refine TL.split_join (s := 10) (S := []) (by decide +kernel) (by decide +kernel) (fun e => ?_) fun p hp => ?_
  · have := congrArg List.length e
    unfold rowsS at this
    rw [List.length_append, List.length_map, List.length_nil] at this
    have := ok.one
    omega
  · unfold rowsS at hp
    rcases List.mem_append.mp hp with h | h
    · obtain ⟨r, hr, rfl⟩ := List.mem_map.mp h
      exact line_no10 (rowOk ok hr)
    · obtain ⟨q, hq, rfl⟩ := List.mem_map.mp h
      exact (not_calm (ok.far q hq)).1
theorem rows_sum {P : Plan} (ok : P.Ok) : ((rowsS P).map (·.length)).sum + (rowsS P).length * ("\n" : Str).length ≤ 1000 := by
  have h1 := sum_le (xs := (rowsS P).map (·.length)) (b := 110) fun x hx => by
    obtain ⟨w, hw, rfl⟩ := List.mem_map.mp hx
    unfold rowsS at hw
    rcases List.mem_append.mp hw with h | h
    · obtain ⟨r, hr, rfl⟩ := List.mem_map.mp h
      exact line_len (rowOk ok hr)
    · obtain ⟨q, hq, rfl⟩ := List.mem_map.mp h
      exact Nat.le_trans (not_calm (ok.far q hq)).2 (by decide)
  have h2 : (rowsS P).length ≤ 6 := by
    unfold rowsS
    rw [List.length_append, List.length_map, List.length_map]
    have := ok.most
    have := ok.few
    omega
  have h3 : ("\n" : Str).length = 1 := by decide +kernel
  rw [List.length_map] at h1
  rw [h3]
  omega
theorem text_len {P : Plan} (ok : P.Ok) : (textS P).length ≤ 1000 := Nat.le_trans (join_len _ _) (rows_sum ok)
theorem text_joined {P : Plan} (ok : P.Ok) : joinD (.str "\n") (.list ((rowsS P).map .str)) = some (.str (textS P)) := join_some (Nat.le_trans (rows_sum ok) (by decide))
def lineP (r : List Act) : D := .tuple [.str "line", encL r]
def notP (q : Bool × Int) : D := .tuple [.str "notch", encN q]
theorem set2 (x0 x1 x2 x3 x4 u v : Option D) : ((([x0, x1, x2, x3, x4, none, none] : Rho).set 5 u).set 6 v) = [x0, x1, x2, x3, x4, u, v] := rfl
abbrev rtWF : RtM := rtT 2 (rtsCons (rtN 5) (rtsCons (rtN 6) rtsNil))
def rowsD (P : Plan) : List D := P.lines.map lineP ++ P.notches.map notP
theorem rt_pair (x y : D) (ρ : Rho) : rtWF (.tuple [x, y]) ρ = some ((ρ.set 5 (some x)).set 6 (some y)) := rfl
theorem eq_ll : eqD (.str "line") (.str "line") = some (.bool true) := by kernel_rfl
theorem eq_nl : eqD (.str "notch") (.str "line") = some (.bool false) := by kernel_rfl
theorem eq_ln : eqD (.str "line") (.str "notch") = some (.bool false) := by kernel_rfl
theorem eq_nn : eqD (.str "notch") (.str "notch") = some (.bool true) := by kernel_rfl
section
variable {P : Plan} (ok : P.Ok) (x0 x1 x2 x3 x4 : Option D)
theorem lc_lines : lcF rtWF (tE (eOp eqD (eVar 5) (eC (.str "line")))) (eVar 6) (rowsD P) [x0, x1, x2, x3, x4, none, none] [] = .ok (P.lines.map encL, []) := by
  have r : lcF rtWF (tE (eOp eqD (eVar 5) (eC (.str "line")))) (eVar 6) (P.notches.map notP) [x0, x1, x2, x3, x4, none, none] [] = .ok ([], []) := by
    have h := lcF_non (t := rtWF) (c := tE (eOp eqD (eVar 5) (eC (.str "line")))) (e := eVar 6) (ρ := [x0, x1, x2, x3, x4, none, none]) (s := []) (enc := notP) (rest := []) (zs := []) rfl P.notches fun q _ => ⟨_, rt_pair _ _ _, by
      rw [set2]; simp [eq_nl]⟩
    rwa [List.append_nil] at h
  have h := lcF_all (enc := lineP) (g := encL) r P.lines fun l _ => ⟨_, rt_pair _ _ _, by rw [set2]; simp [eq_ll], by rw [set2]; simp⟩
  rwa [List.append_nil] at h
theorem lc_nots : lcF rtWF (tE (eOp eqD (eVar 5) (eC (.str "notch")))) (eVar 6) (rowsD P) [x0, x1, x2, x3, x4, none, none] [] = .ok (P.notches.map encN, []) := by
  have r : lcF rtWF (tE (eOp eqD (eVar 5) (eC (.str "notch")))) (eVar 6) (P.notches.map notP) [x0, x1, x2, x3, x4, none, none] [] = .ok (P.notches.map encN, []) := by
    have h := lcF_all (t := rtWF) (c := tE (eOp eqD (eVar 5) (eC (.str "notch")))) (e := eVar 6) (ρ := [x0, x1, x2, x3, x4, none, none]) (s := []) (enc := notP) (g := encN) (rest := []) (zs := []) rfl P.notches fun q _ => ⟨_, rt_pair _ _ _, by
      rw [set2]; simp [eq_nn], by rw [set2]; simp⟩
    rwa [List.append_nil, List.append_nil] at h
  exact lcF_non (enc := lineP) r P.lines fun l _ => ⟨_, rt_pair _ _ _, by rw [set2]; simp [eq_ln]⟩
theorem lc_words : lcF rtWF tYesD (eVar 5) (P.lines.map lineP) [x0, x1, x2, x3, x4, none, none] [] = .ok (P.lines.map fun _ => .str "line", []) := by
  have h := lcF_all (t := rtWF) (c := tYesD) (e := eVar 5) (ρ := [x0, x1, x2, x3, x4, none, none]) (s := []) (enc := lineP) (g := fun _ => .str "line") (rest := []) (zs := []) rfl P.lines fun q _ => ⟨_, rt_pair _ _ _, rfl, by rw [set2]; simp⟩
  rwa [List.append_nil, List.append_nil] at h
end
theorem rows_plain (P : Plan) : (PyData.list (rowsD P)).plain = true := by
  unfold rowsD
  rw [PyData.plain]
  exact plainAll_app (plainAll_map fun r _ => by unfold lineP; rw [PyData.plain, PyData.plainAll, PyData.plainAll, plain_line]; rfl) (plainAll_map fun q _ => rfl)
theorem none_in (P : Plan) : inD .none (.list (rowsD P)) = some (.bool false) := by
  have hp : pln .none (.list (rowsD P)) = true := by
    unfold pln shal
    rw [rows_plain]
    rfl
  show ((some (rowsD P)).bind fun ys => if pln .none (.list (rowsD P)) then some (PyData.bool (ys.any fun z => PyData.eqv z .none)) else none) = _
  rw [Option.bind_some, hp, if_pos rfl]
  have h : ((rowsD P).any fun z => PyData.eqv z .none) = false := by
    rw [List.any_eq_false]
    intro z hz
    unfold rowsD at hz
    rcases List.mem_append.mp hz with h | h
    · obtain ⟨r, _, rfl⟩ := List.mem_map.mp h
      exact Bool.false_ne_true
    · obtain ⟨q, _, rfl⟩ := List.mem_map.mp h
      exact Bool.false_ne_true
  rw [h]
theorem cut_lines (P : Plan) : slD (.list (rowsD P)) none (some (P.lines.length : Int)) = some (.list (P.lines.map lineP)) := by
  show some (PyData.list (DL.cutD (rowsD P) none (some ((P.lines.length : Nat) : Int)))) = _
  unfold DL.cutD
  have hl : P.lines.length ≤ (rowsD P).length := by unfold rowsD; rw [List.length_append, List.length_map]; omega
  rw [HT.sIx_nat, HT.sIx_none, Nat.min_eq_left hl]
  unfold rowsD
  rw [List.drop_zero, Nat.sub_zero, List.take_append_of_le_length (by rw [List.length_map]; exact Nat.le_refl _), List.take_of_length_le (by rw [List.length_map]; exact Nat.le_refl _)]
theorem mul_lines {P : Plan} (ok : P.Ok) : mulLD (.list [.str "line"]) (.int (P.lines.length : Int)) = some (.list (P.lines.map fun _ => .str "line")) := by
  have hm := ok.most
  show (if (decide ((0 : Int) ≤ (P.lines.length : Int)) && (decide ((P.lines.length : Int) ≤ 1000) && decide ([PyData.str "line"].length ≤ 1000))) = true then some (PyData.list (List.replicate (P.lines.length : Int).toNat [PyData.str "line"]).flatten) else none) = _
  rw [decide_eq_true (show (0 : Int) ≤ (P.lines.length : Int) by omega), decide_eq_true (show (P.lines.length : Int) ≤ 1000 by omega), Int.toNat_natCast]
  show some (PyData.list (List.replicate P.lines.length [PyData.str "line"]).flatten) = _
  rw [List.flatten_replicate_singleton, List.map_const']
theorem ne_words (P : Plan) : neD (.list (P.lines.map fun _ => .str "line")) (.list (P.lines.map fun _ => .str "line")) = some (.bool false) := by
  refine ne_self ?_ ?_
  · rw [PyData.plain]; exact plainAll_map fun _ _ => rfl
  · rw [PyData.depth]
    exact Nat.succ_le_of_lt (Nat.lt_of_le_of_lt (depthAll_map (b := 0) fun _ _ => Nat.le_refl _) (by decide))
abbrev R7 (x0 x1 x2 x3 x4 x5 x6 : L) : List L := [x0, x1, x2, x3, x4, x5, x6]
theorem lc_read {P : Plan} (ok : P.Ok) (x1 x2 x3 x5 x6 : Option D) : eLc (wSeq (eSplit (eVar 0) (eC (.str "\n")))) [4] (rtN 4) tYesD (eCall m_line_in (aCons (eVar 4) aNil)) [some (.str (textS P)), x1, x2, x3, none, x5, x6] [] = .ok (.list (rowsD P), []) := by
  have sp := split_some (x := textS P) (y := "\n") (by decide +kernel) (Nat.le_trans (text_len ok) (by decide))
  rw [rows_split ok] at sp
  have w : wSeq (eSplit (eVar 0) (eC (.str "\n"))) [some (.str (textS P)), x1, x2, x3, none, x5, x6] [] = .ok ((rowsS P).map .str, []) := by
    show ((ofO (splitD (.str (textS P)) (.str "\n")) []).bind fun z => ofO (itemsOf z.1) z.2) = _
    rw [sp]
    rfl
  have wp : wpR [some (.str (textS P)), x1, x2, x3, none, x5, x6] [4] = [some (.str (textS P)), x1, x2, x3, none, x5, x6] := by simp [wpR]
  have r2 : lcF (rtN 4) tYesD (eCall m_line_in (aCons (eVar 4) aNil)) (P.notches.map fun q => .str (notS q)) [some (.str (textS P)), x1, x2, x3, none, x5, x6] [] = .ok (P.notches.map notP, []) := by
    have h := lcF_all (t := rtN 4) (c := tYesD) (e := eCall m_line_in (aCons (eVar 4) aNil)) (ρ := [some (.str (textS P)), x1, x2, x3, none, x5, x6]) (s := []) (enc := fun q => .str (notS q)) (g := notP) (rest := []) (zs := []) rfl P.notches fun q hq => ⟨_, rfl, rfl, by
      have := m_line_not (ok.far q hq)
      simp [this, notP]⟩
    rwa [List.append_nil, List.append_nil] at h
  have r1 := lcF_all (enc := fun r => .str (lineS r)) (g := lineP) r2 P.lines fun r hr => ⟨_, rfl, rfl, by
    have := m_line_line (rowOk ok hr)
    simp [this, lineP]⟩
  have em : (rowsS P).map PyData.str = (P.lines.map fun r => .str (lineS r)) ++ P.notches.map fun q => .str (notS q) := by
    unfold rowsS
    rw [List.map_append, List.map_map, List.map_map]
    rfl
  have hl : small ((rowsS P).map PyData.str).length = true := decide_eq_true (by
    unfold rowsS
    rw [List.length_map, List.length_append, List.length_map, List.length_map]
    have := ok.most
    have := ok.few
    omega)
  unfold eLc
  rw [w]
  simp only [bind_ok]
  rw [if_pos hl, wp, em, r1]
  rfl
theorem m_read_eq {P : Plan} (ok : P.Ok) : m_read_so [.str (textS P)] = .ok P.enc := by
  unfold m_read_so
  rw [s_runF]
  unfold g_read_so
  show (gSeq _ _ (R7 (.d (.str (textS P))) .un .un .un .un .un .un) []).out = _
  have hn := none_in P
  have hrl : (rowsD P).length ≤ 1000 := by
    unfold rowsD
    rw [List.length_append, List.length_map, List.length_map]
    have := ok.most
    have := ok.few
    omega
  have cl := cut_lines P
  have l2 := fun x0 x2 x3 => lc_lines (P := P) x0 (some (.list (rowsD P))) x2 x3 none
  have l3 := fun x0 x2 x3 => lc_nots (P := P) x0 (some (.list (rowsD P))) x2 x3 none
  have l4 := fun x0 x2 x3 => lc_words (P := P) x0 (some (.list (rowsD P))) x2 x3 none
  have mlen : (P.lines.map lineP).length ≤ 1000 := by rw [List.length_map]; have := ok.most; omega
  have lcr := lc_read ok none none none none none
  generalize rowsD P = W at hn hrl cl l2 l3 l4 lcr
  generalize P.lines.map lineP = V at cl l4 mlen
  generalize textS P = T at lcr ⊢
  have tp : ∀ ds : List D, tupleD [.list ds] = some (.tuple ds) := fun _ => rfl
  have wp : ∀ x0 x2 x3 : Option D, wpR [x0, some (.list W), x2, x3, none, none, none] [5, 6] = [x0, some (.list W), x2, x3, none, none, none] := fun _ _ _ => by simp [wpR]
  have eA : ∀ x2 x3 : Option D, eLc (wSeq (eVar 1)) [5, 6] rtWF (tE (eOp eqD (eVar 5) (eC (.str "line")))) (eVar 6) [some (.str T), some (.list W), x2, x3, none, none, none] [] = .ok (.list (P.lines.map encL), []) := fun x2 x3 => by
    unfold eLc
    rw [show wSeq (eVar 1) [some (.str T), some (.list W), x2, x3, none, none, none] [] = .ok (W, []) from rfl]
    simp only [bind_ok]
    rw [if_pos (show small W.length = true from decide_eq_true (Nat.le_trans hrl (by decide))), wp, l2]
    rfl
  have eB : ∀ x2 x3 : Option D, eLc (wSeq (eVar 1)) [5, 6] rtWF (tE (eOp eqD (eVar 5) (eC (.str "notch")))) (eVar 6) [some (.str T), some (.list W), x2, x3, none, none, none] [] = .ok (.list (P.notches.map encN), []) := fun x2 x3 => by
    unfold eLc
    rw [show wSeq (eVar 1) [some (.str T), some (.list W), x2, x3, none, none, none] [] = .ok (W, []) from rfl]
    simp only [bind_ok]
    rw [if_pos (show small W.length = true from decide_eq_true (Nat.le_trans hrl (by decide))), wp, l3]
    rfl
  have eC' : ∀ x3 : Option D, eLc (wSeq (eSl (eVar 1) oNone (oSome (eCB lenD (aCons (eVar 2) aNil))))) [5, 6] rtWF tYesD (eVar 5) [some (.str T), some (.list W), some (.tuple (P.lines.map encL)), x3, none, none, none] [] = .ok (.list (P.lines.map fun _ => .str "line"), []) := fun x3 => by
    have w : wSeq (eSl (eVar 1) oNone (oSome (eCB lenD (aCons (eVar 2) aNil)))) [some (.str T), some (.list W), some (.tuple (P.lines.map encL)), x3, none, none, none] [] = .ok (V, []) := by
      show ((ofO (slD (.list W) none (some ((P.lines.map encL).length : Int))) []).bind fun z => ofO (itemsOf z.1) z.2) = _
      rw [List.length_map, cl]
      rfl
    unfold eLc
    rw [w]
    simp only [bind_ok]
    rw [if_pos (show small V.length = true from decide_eq_true (Nat.le_trans mlen (by decide))), wp, l4]
    rfl
  rw [kstep (ρ' := R7 (.d (.str T)) .un .un .un .un .un .un) (s' := []) (by simp [R7, isiB])]
  rw [kstep (ρ' := R7 (.d (.str T)) (.d (.list W)) .un .un .un .un .un) (s' := []) (by
    rw [s_gAsg, s_fz0]
    show exprS (eLc _ _ _ _ _ [some (.str T), none, none, none, none, none, none] []) _ = _
    rw [lcr]
    rfl)]
  rw [kstep (ρ' := R7 (.d (.str T)) (.d (.list W)) .un .un .un .un .un) (s' := []) (by simp [R7, hn])]
  rw [kstep (ρ' := R7 (.d (.str T)) (.d (.list W)) (.d (.tuple (P.lines.map encL))) .un .un .un .un) (s' := []) (by
    rw [s_gAsg, s_fz0]
    show exprS (((eLc _ _ _ _ _ [some (.str T), some (.list W), none, none, none, none, none] []).bind fun z => (R.ok ([], z.2)).bind fun y => .ok (z.1 :: y.1, y.2)).bind fun z => ofO (tupleD z.1) z.2) _ = _
    rw [eA]
    simp only [bind_ok, tp, ofO_some, exprS_ok]
    rfl)]
  rw [kstep (ρ' := R7 (.d (.str T)) (.d (.list W)) (.d (.tuple (P.lines.map encL))) (.d P.enc) .un .un .un) (s' := []) (by
    rw [s_gAsg, s_fz0]
    show exprS ((((R.ok (PyData.tuple (P.lines.map encL), [])).bind fun z => (((((eLc _ _ _ _ _ [some (.str T), some (.list W), some (.tuple (P.lines.map encL)), none, none, none, none] z.2).bind fun z => (R.ok ([], z.2)).bind fun y => .ok (z.1 :: y.1, y.2)).bind fun z => ofO (tupleD z.1) z.2)).bind fun z => (R.ok ([], z.2)).bind fun y => .ok (z.1 :: y.1, y.2)).bind fun y => .ok (z.1 :: y.1, y.2))).bind fun z => ofO (if small z.1.length then some (PyData.tuple z.1) else none) z.2) _ = _
    simp only [bind_ok]
    rw [eB]
    simp only [bind_ok, tp, ofO_some]
    rfl)]
  have ip := m_is_plan_ok ok
  have ml := mul_lines ok
  have nw := ne_words P
  rw [kstep (ρ' := R7 (.d (.str T)) (.d (.list W)) (.d (.tuple (P.lines.map encL))) (.d P.enc) .un .un .un) (s' := []) (by
    rw [s_gIf, s_fz0]
    show exprS (((((eLc _ _ _ _ _ [some (.str T), some (.list W), some (.tuple (P.lines.map encL)), some P.enc, none, none, none] []).bind fun z => ((eOp mulLD (eLstS (aCons (eC (.str "line")) aNil)) (eCB lenD (aCons (eVar 2) aNil))) [some (.str T), some (.list W), some (.tuple (P.lines.map encL)), some P.enc, none, none, none] z.2).bind fun y => ofO (neD z.1 y.1) y.2).bind fun z => ofO (isB z.1) z.2).bind fun z => if z.1 = true then R.ok (true, z.2) else _)) _ = _
    rw [eC']
    simp only [bind_ok]
    have e2 : (eOp mulLD (eLstS (aCons (eC (.str "line")) aNil)) (eCB lenD (aCons (eVar 2) aNil))) [some (.str T), some (.list W), some (.tuple (P.lines.map encL)), some P.enc, none, none, none] [] = .ok (.list (P.lines.map fun _ => .str "line"), []) := by
      simp [ml]
    rw [e2]
    simp [nw, ip])]
  simp [R7]
end Lw
end

section
set_option Elab.async false
set_option linter.all false
set_option maxRecDepth 100000
set_option maxHeartbeats 4000000
/-! The plain law: texts of plans, told. -/
namespace Lw
open PySem PySem.Spec PyProof.Rows L2 DL
theorem addS {x y : Str} (h : x.length + y.length ≤ 1000000) : addD (.str x) (.str y) = some (.str (x ++ y)) := by
  show (if small (x.length + y.length) then some (PyData.str (x ++ y)) else none) = _
  rw [show small (x.length + y.length) = true from decide_eq_true h]
  rfl
theorem join_words {r : List Act} (h : RowOk r) : joinD (.str " ") (.list (r.map fun c => .str (wordA c))) = some (.str (Txt.join " " (r.map wordA))) := by
  have := join_some (x := " ") (ys := r.map wordA) (Nat.le_trans (words_sum h) (by decide))
  rwa [List.map_map] at this
theorem add_line {r : List Act} (h : RowOk r) : addD (.str "line ") (.str (Txt.join " " (r.map wordA))) = some (.str (lineS r)) := by
  refine addS ?_
  have h1 := join_len " " (r.map wordA)
  have h2 := words_sum h
  have h3 : ("line " : Str).length = 5 := by decide +kernel
  omega
structure NotE (q : Bool × Int) : Prop where
  a1 : addD (.str "notch ") (.str (endS q.1)) = some (.str ("notch " ++ endS q.1))
  a2 : addD (.str ("notch " ++ endS q.1)) (.str " ") = some (.str ("notch " ++ endS q.1 ++ " "))
  a3 : strcD [.int q.2] = some (.str (toString q.2))
  a4 : addD (.str ("notch " ++ endS q.1 ++ " ")) (.str (toString q.2)) = some (.str (notS q))
theorem notE {q : Bool × Int} (hq : 1 ≤ q.2 ∧ q.2 ≤ 4) : NotE q := nots NotE (fun b hb k hk => by
  simp only [List.mem_cons, List.not_mem_nil, or_false] at hb hk
  rcases hb with rfl | rfl <;> rcases hk with rfl | rfl | rfl | rfl <;> exact ⟨by kernel_rfl, by kernel_rfl, by kernel_rfl, by kernel_rfl⟩) hq
theorem lc_notch {P : Plan} (ok : P.Ok) {i j k : Nat} {ρ : Rho} {s : List D} {w : WM} (hw : w ρ s = .ok (P.notches.map encN, s)) (hij : i ≠ j) (hi : i < ρ.length) (hj : j < ρ.length) :
    eLc w [i, j] (rtT 2 (rtsCons (rtN i) (rtsCons (rtN j) rtsNil))) tYesD (eOp addD (eOp addD (eOp addD (eC (.str "notch ")) (eVar i)) (eC (.str " "))) (eCB strcD (aCons (eVar j) aNil))) ρ s = .ok (.list (P.notches.map fun q => .str (notS q)), s) := by
  have hl : ∀ ρ' : Rho, (wpR ρ' [i, j]).length = ρ'.length := fun ρ' => by unfold wpR; rw [List.length_mapIdx]
  have key := lcF_pair (e := eOp addD (eOp addD (eOp addD (eC (.str "notch ")) (eVar i)) (eC (.str " "))) (eCB strcD (aCons (eVar j) aNil))) (a := fun q : Bool × Int => .str (endS q.1)) (b := fun q => .int q.2) (g := fun q => .str (notS q)) (i := i) (j := j) (ρ := wpR ρ [i, j]) (s := s) (xs := P.notches) (fun q hq => by
    obtain ⟨a1, a2, a3, a4⟩ := notE (ok.far q hq)
    have g1 : (((wpR ρ [i, j]).set i (some (.str (endS q.1)))).set j (some (.int q.2)))[i]? = some (some (.str (endS q.1))) := by
      rw [List.getElem?_set_ne hij.symm, List.getElem?_set_self (by rw [hl]; exact hi)]
    have g2 : (((wpR ρ [i, j]).set i (some (.str (endS q.1)))).set j (some (.int q.2)))[j]? = some (some (.int q.2)) := by
      rw [List.getElem?_set_self (by rw [List.length_set, hl]; exact hj)]
    simp only [s_eOp, s_eC, s_eVar, s_eCB, s_aCons, s_aNil, bind_ok, g1, g2, a1, a2, a3, a4, ofO_some])
  unfold eLc
  rw [hw]
  simp only [bind_ok]
  have hs : small (P.notches.map encN).length = true := decide_eq_true (by rw [List.length_map]; have := ok.few; omega)
  rw [if_pos hs]
  have key' : lcF (rtT 2 (rtsCons (rtN i) (rtsCons (rtN j) rtsNil))) tYesD (eOp addD (eOp addD (eOp addD (eC (.str "notch ")) (eVar i)) (eC (.str " "))) (eCB strcD (aCons (eVar j) aNil))) (P.notches.map encN) (wpR ρ [i, j]) s = .ok (P.notches.map fun q => .str (notS q), s) := key
  rw [key']
  rfl
theorem rows_strs (P : Plan) : (rowsS P).map PyData.str = (P.lines.map fun r => .str (lineS r)) ++ P.notches.map fun q => .str (notS q) := by
  unfold rowsS
  rw [List.map_append, List.map_map, List.map_map]
  rfl
theorem add_rows {P : Plan} (ok : P.Ok) : addD (.list (P.lines.map fun r => .str (lineS r))) (.list (P.notches.map fun q => .str (notS q))) = some (.list ((rowsS P).map .str)) := by
  rw [rows_strs]
  show (if small ((P.lines.map fun r => PyData.str (lineS r)).length + (P.notches.map fun q => PyData.str (notS q)).length) then some (PyData.list ((P.lines.map fun r => .str (lineS r)) ++ P.notches.map fun q => .str (notS q))) else none) = _
  rw [show small ((P.lines.map fun r => PyData.str (lineS r)).length + (P.notches.map fun q => PyData.str (notS q)).length) = true from decide_eq_true (by
    rw [List.length_map, List.length_map]
    have := ok.most
    have := ok.few
    omega)]
  rfl
theorem lc_words_of {r : List Act} (h : RowOk r) {ρ : Rho} {s : List D} (h5 : 5 < ρ.length) (h2 : ρ[2]? = some (some (encL r))) : eLc (wSeq (eVar 2)) [5] (rtN 5) tYesD (eCall m_word_of (aCons (eVar 5) aNil)) ρ s = .ok (.list (r.map fun c => .str (wordA c)), s) := by
  have key := lcF_map (e := eCall m_word_of (aCons (eVar 5) aNil)) (enc := encA) (g := fun c => .str (wordA c)) (i := 5) (ρ := wpR ρ [5]) (s := s) (xs := r) (fun c hc => by
    have g : ((wpR ρ [5]).set 5 (some (encA c)))[5]? = some (some (encA c)) := List.getElem?_set_self (by unfold wpR; rw [List.length_mapIdx]; exact h5)
    simp only [s_eCall, s_aCons, s_eVar, s_aNil, bind_ok, g, m_word_eq (m := 4) (by decide) (h.2 c hc)])
  unfold eLc
  have w : wSeq (eVar 2) ρ s = .ok (r.map encA, s) := by
    show ((match ρ[2]? with | some (some d) => R.ok (d, s) | _ => .un).bind fun z => ofO (itemsOf z.1) z.2) = _
    rw [h2]
    rfl
  rw [w]
  simp only [bind_ok]
  rw [if_pos (show small (r.map encA).length = true from decide_eq_true (by rw [List.length_map, h.1]; decide)), key]
  rfl
theorem m_text_eq {P : Plan} (ok : P.Ok) : m_text_of [P.enc] = .ok (.str (textS P)) := by
  have k1 := lcF_map (e := eOp addD (eC (.str "line ")) (eJoin (eC (.str " ")) (eLc (wSeq (eVar 2)) [5] (rtN 5) tYesD (eCall m_word_of (aCons (eVar 5) aNil))))) (enc := encL) (g := fun r => .str (lineS r)) (i := 2) (ρ := [some P.enc, none, none, none, none, none]) (s := []) (xs := P.lines) (fun r hr => by
    have h := rowOk ok hr
    have lw := lc_words_of h (ρ := [some P.enc, none, some (encL r), none, none, none]) (s := []) (show (5 : Nat) < 6 by decide) rfl
    have e : ([some P.enc, none, none, none, none, none] : Rho).set 2 (some (encL r)) = [some P.enc, none, some (encL r), none, none, none] := rfl
    rw [e]
    simp only [s_eOp, s_eC, s_eJoin, bind_ok, s_isStr, if_true, lw, join_words h, ofO_some, add_line h])
  have wp : wpR [some P.enc, none, none, none, none, none] [2] = [some P.enc, none, none, none, none, none] := by simp [wpR]
  have l1 : eLc (wSeq (eOp ixD (eVar 0) (eC (.int 0)))) [2] (rtN 2) tYesD (eOp addD (eC (.str "line ")) (eJoin (eC (.str " ")) (eLc (wSeq (eVar 2)) [5] (rtN 5) tYesD (eCall m_word_of (aCons (eVar 5) aNil))))) [some P.enc, none, none, none, none, none] [] = .ok (.list (P.lines.map fun r => .str (lineS r)), []) := by
    rw [s_eLcA]
    have w : wSeq (eOp ixD (eVar 0) (eC (.int 0))) [some P.enc, none, none, none, none, none] [] = .ok (P.lines.map encL, []) := rfl
    rw [w]
    simp only [bind_ok]
    rw [if_pos (show small (P.lines.map encL).length = true from decide_eq_true (by rw [List.length_map]; have := ok.most; omega)), wp, k1]
    rfl
  have l2 := lc_notch ok (i := 3) (j := 4) (k := 0) (ρ := [some P.enc, some (.list (P.lines.map fun r => .str (lineS r))), none, none, none, none]) (s := []) (w := wSeq (eOp ixD (eVar 0) (eC (.int 1)))) rfl (by decide) (show (3 : Nat) < 6 by decide) (show (4 : Nat) < 6 by decide)
  have ad := add_rows ok
  have tj := text_joined ok
  unfold m_text_of
  rw [s_runF]
  unfold g_text_of
  show (gSeq _ _ [.d P.enc, .un, .un, .un, .un, .un] []).out = _
  rw [kstep (ρ' := [.d P.enc, .d (.list (P.lines.map fun r => .str (lineS r))), .un, .un, .un, .un]) (s' := []) (by
    rw [s_gAsg, s_fz0]
    show exprS (eLc _ _ _ _ _ [some P.enc, none, none, none, none, none] []) _ = _
    rw [l1]
    rfl)]
  rw [s_gRet, s_fz0]
  show (exprS (eJoin _ _ [some P.enc, some (.list (P.lines.map fun r => .str (lineS r))), none, none, none, none] []) _).out = _
  have v1 : eVar 1 [some P.enc, some (.list (P.lines.map fun r => PyData.str (lineS r))), none, none, none, none] [] = .ok (.list (P.lines.map fun r => .str (lineS r)), []) := rfl
  simp only [s_eJoin, s_eC, bind_ok, s_isStr, if_true, s_eOp, v1, l2, ad, ofO_some, tj, exprS_ok, out_rt]
theorem m_ptext_eq {P : Plan} (ok : P.Ok) : m_plan_text [P.enc] = .ok (.str (textS P)) := by
  simp [m_plan_text, g_plan_text, s_runF, m_need_plan_ok ok, m_text_eq ok]
theorem m_rplan_eq {P : Plan} (ok : P.Ok) : m_read_plan [.str (textS P)] = .ok P.enc := by
  simp [m_read_plan, g_read_plan, s_runF, m_read_eq ok]
/-! ### the law's own lines -/
def DeedE : Act → Prop
  | none => True
  | some (s, k) => strcD [.int s] = some (.str (toString s)) ∧ addD (.str (toString s)) (.str ":") = some (.str ((toString s : Str) ++ ":")) ∧ strcD [.int (k : Int)] = some (.str (toString (k : Int))) ∧ addD (.str ((toString s : Str) ++ ":")) (.str (toString (k : Int))) = some (.str (wordA (some (s, k))))
theorem deedE {m : Nat} (hm : m ≤ 4) {c : Act} (hc : ∀ s k, c = some (s, k) → -2 ≤ s ∧ s ≤ 2 ∧ k < m) : DeedE c :=
  deeds DeedE trivial (fun s hs k hk => by
    simp only [List.mem_cons, List.not_mem_nil, or_false] at hs hk
    rcases hs with rfl | rfl | rfl | rfl | rfl <;> rcases hk with rfl | rfl | rfl | rfl <;> exact ⟨by kernel_rfl, by kernel_rfl, by kernel_rfl, by kernel_rfl⟩) hm hc
abbrev wordE : EM := eIf (tE (eOp isD (eVar 4) (eC .none))) (eC (.str "-")) (eOp addD (eOp addD (eCB strcD (aCons (eOp ixD (eVar 4) (eC (.int 0))) aNil)) (eC (.str ":"))) (eCB strcD (aCons (eOp ixD (eVar 4) (eC (.int 1))) aNil)))
theorem wordE_eq {c : Act} (h : DeedE c) {ρ : Rho} {s : List D} (g : ρ[4]? = some (some (encA c))) : wordE ρ s = .ok (.str (wordA c), s) := by
  cases c with
  | none =>
    simp [wordE, g, encA, wordA]
  | some x =>
    obtain ⟨st, k⟩ := x
    obtain ⟨h1, h2, h3, h4⟩ := h
    simp only [wordE, s_eIf, s_tE, s_eOp, s_eVar, g, s_eC, bind_ok, s_is, encA, s_isNone2, ofO_some, s_isB, Bool.false_eq_true, if_false, s_eCB, s_aCons, s_aNil, s_ix2, s_at0, s_at1, List.getElem?_cons_zero, List.getElem?_cons_succ, h1, h2, h3, h4]
abbrev lineB : SM := (gSeq (gAsg [] (eLc (wSeq (eVar 2)) [4] (rtN 4) tYesD wordE) (tgN 3))
  (gApp [] 1 (eOp addD (eC (.str "line ")) (eJoin (eC (.str " ")) (eVar 3)))))
theorem line_loop (p : D) : ∀ (rs : List (List Act)) (acc : List D) (x2 x3 : L), (∀ r ∈ rs, RowOk r) → acc.length + rs.length ≤ 1000 → ∃ y2 y3 : L,
    loopF (tgN 2) lineB (rs.map encL) [.d p, .own (.lst acc), x2, x3, .un, .un, .un] [] = .nx [.d p, .own (.lst (acc ++ rs.map fun r => .str (lineS r))), y2, y3, .un, .un, .un] []
  | [], acc, x2, x3, _, _ => ⟨x2, x3, by simp⟩
  | r :: rs, acc, x2, x3, hr, hl => by
    simp only [List.length_cons] at hl
    have h := hr r List.mem_cons_self
    obtain ⟨y2, y3, ih⟩ := line_loop p rs (acc ++ [.str (lineS r)]) (.d (encL r)) (.d (.list (r.map fun c => .str (wordA c)))) (fun t ht => hr t (List.mem_cons_of_mem _ ht)) (by simp; omega)
    refine ⟨y2, y3, ?_⟩
    have key := lcF_map (e := wordE) (enc := encA) (g := fun c => .str (wordA c)) (i := 4) (ρ := [some p, none, some (encL r), lv x3, none, none, none]) (s := []) (xs := r) (fun c hc => wordE_eq (deedE (m := 4) (by decide) (h.2 c hc)) rfl)
    have wp : wpR [some p, none, some (encL r), lv x3, none, none, none] [4] = [some p, none, some (encL r), lv x3, none, none, none] := by simp [wpR]
    have lc : eLc (wSeq (eVar 2)) [4] (rtN 4) tYesD wordE [some p, none, some (encL r), lv x3, none, none, none] [] = .ok (.list (r.map fun c => .str (wordA c)), []) := by
      rw [s_eLcA]
      have w : wSeq (eVar 2) [some p, none, some (encL r), lv x3, none, none, none] [] = .ok (r.map encA, []) := rfl
      rw [w]
      simp only [bind_ok]
      rw [if_pos (show small (r.map encA).length = true from decide_eq_true (by rw [List.length_map, h.1]; decide)), wp, key]
      rfl
    have jw := join_words h
    have al := add_line h
    rw [List.map_cons, s_loopN]
    show (lineB [.d p, .own (.lst acc), .d (encL r), x3, .un, .un, .un] []).lp _ = _
    unfold lineB
    rw [kstep (ρ' := [.d p, .own (.lst acc), .d (encL r), .d (.list (r.map fun c => .str (wordA c))), .un, .un, .un]) (s' := []) (by
      rw [s_gAsg, s_fz0]
      have ev : vw [L.d p, .own (.lst acc), .d (encL r), x3, .un, .un, .un] = [some p, none, some (encL r), lv x3, none, none, none] := by simp
      rw [ev, lc]
      rfl)]
    have la : acc.length + 1 ≤ 1000000 := by omega
    have fl : flat (.str (lineS r)) = true := rfl
    generalize (r.map fun c => PyData.str (wordA c)) = V at jw ih ⊢
    simp only [s_gApp, s_fz0, s_vwc, s_lv, s_lvown, s_lvun, s_vw0, List.getElem?_cons_succ, List.getElem?_cons_zero]
    have ee : ∀ s, eOp addD (eC (.str "line ")) (eJoin (eC (.str " ")) (eVar 3)) [some p, none, some (encL r), some (.list V), none, none, none] s = .ok (.str (lineS r), s) := fun s => by
      simp [jw, al]
    rw [ee, exprS_ok]
    simp [la, fl]
    rw [ih]
    simp
theorem m_llines_eq {P : Plan} (ok : P.Ok) : m__law_lines [P.enc] = .ok (.list ((rowsS P).map .str)) := by
  obtain ⟨y2, y3, lp⟩ := line_loop P.enc P.lines [] .un .un (fun r hr => rowOk ok hr) (by have := ok.most; simp; omega)
  have l2 := fun u v => lc_notch ok (i := 5) (j := 6) (k := 0) (ρ := [some P.enc, some (.list (P.lines.map fun r => .str (lineS r))), u, v, none, none, none]) (s := []) (w := wSeq (eOp ixD (eVar 0) (eC (.int 1)))) rfl (by decide) (show (5 : Nat) < 7 by decide) (show (6 : Nat) < 7 by decide)
  have ad := add_rows ok
  unfold m__law_lines
  rw [s_runF]
  unfold g__law_lines
  show (gSeq _ _ [.d P.enc, .un, .un, .un, .un, .un, .un] []).out = _
  rw [kstep (ρ' := [.d P.enc, .own (.lst []), .un, .un, .un, .un, .un]) (s' := []) (by simp)]
  rw [kstep (ρ' := [.d P.enc, .own (.lst (P.lines.map fun r => .str (lineS r))), y2, y3, .un, .un, .un]) (s' := []) (by
    rw [s_gFor]
    have w : wSeq (eOp ixD (eVar 0) (eC (.int 0))) (vw (fz [] [.d P.enc, .own (.lst []), .un, .un, .un, .un, .un])) [] = .ok (P.lines.map encL, []) := by
      rw [s_fz0]; rfl
    rw [w, exprS_ok, s_fz0]
    exact lp)]
  rw [s_gRet]
  have ev : vw (fz [1] [L.d P.enc, .own (.lst (P.lines.map fun r => PyData.str (lineS r))), y2, y3, .un, .un, .un]) = [some P.enc, some (.list (P.lines.map fun r => .str (lineS r))), lv (frz [1] 2 y2), lv (frz [1] 3 y3), none, none, none] := by
    simp [s_fz]
  rw [ev]
  have v1 : eVar 1 [some P.enc, some (.list (P.lines.map fun r => PyData.str (lineS r))), lv (frz [1] 2 y2), lv (frz [1] 3 y3), none, none, none] [] = .ok (.list (P.lines.map fun r => .str (lineS r)), []) := rfl
  simp only [s_eOp, v1, bind_ok]
  rw [l2]
  simp only [bind_ok, ad, ofO_some, exprS_ok, out_rt]
/-! ### a valid plan is one by the law's words -/
end Lw
end

section
set_option Elab.async false
set_option linter.all false
set_option maxRecDepth 100000
set_option maxHeartbeats 4000000
/-! The plain law of k10, part a: words and lines. -/
namespace Lw
open PySem PySem.Spec PyProof.Rows L2 DL
/-! ### splits -/
theorem split_back (x y : Str) : Txt.join y (Txt.split x y) = x := by rw [TL.join_eq]; exact StrLaws.join_split x y
theorem split_ne {y : Str} (h : Txt.split "" y ≠ []) (x : Str) : Txt.split x y ≠ [] := fun e => by
  have b := split_back x y
  rw [e] at b
  have e0 : x = "" := by rw [← b]; rfl
  rw [e0] at e
  exact h e
theorem joinL_sum (S : List Nat) : ∀ {ps : List (List Nat)}, ps ≠ [] → (TL.joinL S ps).length + S.length = (ps.map List.length).sum + ps.length * S.length
  | [], h => absurd rfl h
  | [p], _ => by simp [TL.joinL]
  | p :: q :: r, _ => by
    have ih := joinL_sum S (ps := q :: r) (by simp)
    simp only [TL.joinL, List.length_append, List.map_cons, List.sum_cons, List.length_cons] at ih ⊢
    have : (r.length + 1 + 1) * S.length = (r.length + 1) * S.length + S.length := by rw [Nat.add_mul (r.length + 1) 1, Nat.one_mul]
    omega
theorem join_sum {y : Str} {ps : List Str} (h : ps ≠ []) : (Txt.join y ps).length + y.length = (ps.map (·.length)).sum + ps.length * y.length := by
  have k := joinL_sum (TL.tl y) (ps := ps.map TL.tl) (by simpa using h)
  rw [← tl_joinT, List.map_map, List.length_map] at k
  rw [TL.len_tl, TL.len_tl y]
  have e : (ps.map (·.length)) = ps.map (List.length ∘ TL.tl) := List.map_congr_left fun p _ => TL.len_tl p
  rw [e]
  exact k
theorem mem_sum {xs : List Nat} {x : Nat} (h : x ∈ xs) : x ≤ xs.sum := by
  induction xs with
  | nil => cases h
  | cons a r ih =>
    rw [List.sum_cons]
    rcases List.mem_cons.mp h with rfl | h
    · omega
    · have := ih h; omega
structure Fit (x y : Str) : Prop where
  sum : ((Txt.split x y).map (·.length)).sum + (Txt.split x y).length = x.length + 1
  one : 1 ≤ (Txt.split x y).length
theorem fit {x y : Str} (hy : y.length = 1) (hn : Txt.split "" y ≠ []) : Fit x y := by
  have h := join_sum (y := y) (split_ne hn x)
  rw [split_back, hy, Nat.mul_one] at h
  exact ⟨h.symm, by have := split_ne hn x; cases e : Txt.split x y with | nil => exact absurd e this | cons a r => simp⟩
theorem Fit.few {x y : Str} (h : Fit x y) : (Txt.split x y).length ≤ x.length + 1 := by have := h.sum; omega
theorem Fit.part {x y : Str} (h : Fit x y) {p : Str} (hp : p ∈ Txt.split x y) : p.length ≤ x.length := by
  have h1 := h.sum
  have h2 := h.one
  have h3 := mem_sum (List.mem_map.mpr ⟨p, hp, rfl⟩ : p.length ∈ (Txt.split x y).map (·.length))
  omega
theorem fitB (x : Str) : Fit x " " := fit (by decide +kernel) (by decide +kernel)
theorem fitN (x : Str) : Fit x "\n" := fit (by decide +kernel) (by decide +kernel)
theorem fitC (x : Str) : Fit x ":" := fit (by decide +kernel) (by decide +kernel)
theorem split_any {x y : Str} (hy : y.length = 1) (hx : x.length ≤ 1000000) : splitD (.str x) (.str y) = some (.list ((Txt.split x y).map .str)) := split_some (by omega) hx
theorem l1B : (" " : Str).length = 1 := by decide +kernel
theorem l1N : ("\n" : Str).length = 1 := by decide +kernel
theorem l1C : (":" : Str).length = 1 := by decide +kernel
/-! ### words -/
def VA (c : Act) : Prop := ∀ s k, c = some (s, k) → -2 ≤ s ∧ s ≤ 2 ∧ k < 4
def acts21 : List Act := none :: ([(-2 : Int), -1, 0, 1, 2].flatMap fun s => [0, 1, 2, 3].map fun k => some (s, k))
theorem mem21 {c : Act} (h : VA c) : c ∈ acts21 := deeds (fun c => c ∈ acts21) (by decide) (by decide) (m := 4) (by decide) h
theorem va21 {c : Act} (h : c ∈ acts21) : VA c := by
  revert c
  unfold acts21 VA
  simp only [List.mem_cons, List.mem_flatMap, List.mem_map, List.not_mem_nil, or_false]
  rintro c (rfl | ⟨s, hs, k, hk, rfl⟩) s' k' e
  · cases e
  · cases e
    omega
def actOf (w : Str) : Option Act := acts21.find? fun c => decide (wordA c = w)
theorem actOf_some {w : Str} {c : Act} (h : actOf w = some c) : wordA c = w ∧ VA c :=
  ⟨by have := List.find?_some h; simpa using this, va21 (List.mem_of_find?_eq_some h)⟩
theorem actOf_none {w : Str} (h : actOf w = none) {c : Act} (hc : VA c) : wordA c ≠ w := fun e => by
  have := List.find?_eq_none.mp h c (mem21 hc)
  simp [e] at this
/-- what a word writes, by the program -/
def getT (tab : List (Str × Int)) (p : Str) : D := match tab.lookup p with
  | some i => .int i
  | none => .none
def actD (w : Str) : D := if w = "-" then .none else match Txt.split w ":" with
  | [p, q] => .tuple [getT tab_STEPS p, getT tab_FIGURES q]
  | _ => .tuple []
theorem eqS (x y : Str) : eqD (.str x) (.str y) = some (.bool (decide (x = y))) := by
  have hp : pln (.str x) (.str y) = true := rfl
  have e : PyData.eqv (.str x) (.str y) = decide (x = y) := by
    show (x == y) = decide (x = y)
    by_cases h : x = y
    · subst h; simp
    · rw [decide_eq_false h]; simpa using h
  unfold eqD
  rw [hp, if_pos rfl, e]
theorem neS (x y : Str) : neD (.str x) (.str y) = some (.bool (!decide (x = y))) := by
  have hp : pln (.str x) (.str y) = true := rfl
  have e : PyData.eqv (.str x) (.str y) = decide (x = y) := by
    show (x == y) = decide (x = y)
    by_cases h : x = y
    · subst h; simp
    · rw [decide_eq_false h]; simpa using h
  unfold neD
  rw [hp, if_pos rfl, e]
theorem getTD_str (tab : List (Str × Int)) (z : Str) : getTD tab (.str z) = some (getT tab z) := rfl
theorem m_action_any {w : Str} (hw : w.length ≤ 1000000) : m_action_in [.str w] = .ok (actD w) := by
  unfold actD
  by_cases h : w = "-"
  · subst h; kernel_rfl
  · rw [if_neg h]
    have sp := split_any (y := ":") l1C hw
    have e1 := eqS w "-"
    rw [decide_eq_false h] at e1
    have ft := fitC w
    generalize Txt.split w ":" = W at sp ft
    unfold m_action_in
    rw [s_runF]
    unfold g_action_in
    show (gSeq _ _ [.d (.str w), .un] []).out = _
    rw [s_gSeq, s_gIf]
    have t1 : tE (eOp eqD (eVar 0) (eC (.str "-"))) (vw (fz [] [.d (.str w), .un])) [] = .ok (false, []) := by simp [e1]
    rw [t1, exprS_ok]
    simp only [Bool.false_eq_true, if_false]
    rw [show gNext [L.d (.str w), .un] [] = .nx [.d (.str w), .un] [] from rfl, seq_nx]
    have st1 : gAsg [] (eSplit (eVar 0) (eC (.str ":"))) (tgN 1) [.d (.str w), .un] [] = .nx [.d (.str w), .d (.list (W.map .str))] [] := by simp [sp]
    rw [s_gSeq, st1, seq_nx]
    match W with
    | [] => simp [s_neI]
    | [p] => simp [s_neI]
    | [p, q] =>
      simp [s_neI, getTD_str]
    | p :: q :: r :: R =>
      simp [s_neI]
      rw [if_neg (by omega)]
      rfl
theorem look_mem {tab : List (Str × Int)} {p : Str} {i : Int} (h : getT tab p = .int i) : (p, i) ∈ tab := by
  unfold getT at h
  cases e : tab.lookup p with
  | none => rw [e] at h; cases h
  | some j =>
    rw [e] at h
    cases h
    induction tab with
    | nil => cases e
    | cons a t ih =>
      obtain ⟨q, k⟩ := a
      rw [List.lookup_cons] at e
      cases hq : (p == q) with
      | true =>
        rw [hq] at e
        cases e
        rw [eq_of_beq hq]
        exact List.mem_cons_self
      | false => rw [hq] at e; exact List.mem_cons_of_mem _ (ih e)
theorem getT_gd {B n : Nat} {tab : List (Str × Int)} (h : ∀ x ∈ tab, x.2.natAbs ≤ 10) (p : Str) : Gd B n (getT tab p) := by
  cases e : getT tab p with
  | int i => exact .int (Nat.le_trans (h _ (look_mem e)) (by omega))
  | none => exact .non
  | _ => unfold getT at e; split at e <;> cases e
theorem step_str {p : Str} {i : Int} (h : (p, i) ∈ tab_STEPS) : -2 ≤ i ∧ i ≤ 2 ∧ p = (toString i : Str) := by
  simp only [tab_STEPS, List.mem_cons, Prod.mk.injEq, List.not_mem_nil, or_false] at h
  rcases h with ⟨rfl, rfl⟩ | ⟨rfl, rfl⟩ | ⟨rfl, rfl⟩ | ⟨rfl, rfl⟩ | ⟨rfl, rfl⟩ <;> exact ⟨by decide, by decide, by kernel_rfl⟩
theorem fig_str {p : Str} {i : Int} (h : (p, i) ∈ tab_FIGURES) : 0 ≤ i ∧ i ≤ 4 ∧ p = (toString i : Str) := by
  simp only [tab_FIGURES, List.mem_cons, Prod.mk.injEq, List.not_mem_nil, or_false] at h
  rcases h with ⟨rfl, rfl⟩ | ⟨rfl, rfl⟩ | ⟨rfl, rfl⟩ | ⟨rfl, rfl⟩ | ⟨rfl, rfl⟩ <;> exact ⟨by decide, by decide, by kernel_rfl⟩
theorem actD_gd {B n : Nat} (w : Str) : Gd B (n + 1) (actD w) := by
  unfold actD
  split
  · exact .non
  · split
    · refine .tup (by simp; omega) fun d hd => ?_
      rcases List.mem_cons.mp hd with rfl | hd
      · exact getT_gd (by decide) _
      · rcases List.mem_cons.mp hd with rfl | hd
        · exact getT_gd (by decide) _
        · cases hd
    · exact .tup (by simp) fun d hd => by cases hd
theorem inI_int {lo hi : Int} {d : D} (h : inI lo hi d = true) : ∃ i, d = .int i ∧ lo ≤ i ∧ i ≤ hi := by
  cases d with
  | int i => obtain ⟨a, b⟩ := He.ba h; exact ⟨i, rfl, of_decide_eq_true a, of_decide_eq_true b⟩
  | _ => cases h
theorem act_dec {w : Str} (h : isActB 4 (actD w) = true) : ∃ c, VA c ∧ w = wordA c := by
  unfold actD at h
  by_cases e : w = "-"
  · exact ⟨none, fun _ _ z => (nomatch z), e⟩
  · rw [if_neg e] at h
    have back := split_back w ":"
    generalize Txt.split w ":" = W at h back
    match W, h, back with
    | [p, q], h, back =>
      obtain ⟨h1, h2⟩ := He.ba (show (inI (-2) 2 (getT tab_STEPS p) && inI 0 (4 - 1) (getT tab_FIGURES q)) = true from h)
      obtain ⟨i, e1, a1, a2⟩ := inI_int h1
      obtain ⟨k, e2, b1, b2⟩ := inI_int h2
      obtain ⟨_, _, p1⟩ := step_str (look_mem e1)
      obtain ⟨_, _, q1⟩ := fig_str (look_mem e2)
      obtain ⟨n, rfl⟩ := Int.eq_ofNat_of_zero_le b1
      refine ⟨some (i, n), fun s k' z => by cases z; omega, ?_⟩
      rw [← back, p1, q1]
      rfl
    | [], h, _ => cases h
    | [_], h, _ => cases h
    | _ :: _ :: _ :: _, h, _ => cases h
theorem word_len {c : Act} (hc : VA c) : (wordA c).length ≤ 4 :=
  deeds (fun c => (wordA c).length ≤ 4) (by decide +kernel) (by decide +kernel) (m := 4) (by decide) hc
theorem actD_word {c : Act} (hc : VA c) : actD (wordA c) = encA c := by
  have h1 := m_action_any (w := wordA c) (Nat.le_trans (word_len hc) (by decide))
  rw [m_action_in_eq (m := 4) (by decide) hc] at h1
  injection h1 with h1
  exact h1.symm
theorem isAct_of (w : Str) : isActB 4 (actD w) = (actOf w).isSome := by
  cases h : actOf w with
  | some c =>
    obtain ⟨rfl, hc⟩ := actOf_some h
    rw [actD_word hc]
    exact deeds (fun c => isActB 4 (encA c) = true) (by decide) (by decide) (m := 4) (by decide) hc
  | none =>
    cases q : isActB 4 (actD w) with
    | false => rfl
    | true =>
      obtain ⟨c, hc, e⟩ := act_dec q
      exact absurd e.symm (actOf_none h hc)
/-! what a word writes, by the law -/
def dinD (w : Str) : D := match actOf w with
  | some c => encA c
  | none => .str "none"
/-- a loop whose body goes on -/
theorem loop_go {tg : TgM} {A : SM} {s : List D} {I : List L → Prop} : ∀ {xs : List D}, (∀ x ∈ xs, ∀ ρ, I ρ → ∃ ρ1, tg x ρ = some ρ1 ∧ ∃ ρ2, A ρ1 s = .nx ρ2 s ∧ I ρ2) → ∀ ρ, I ρ → ∃ ρ2, loopF tg A xs ρ s = .nx ρ2 s ∧ I ρ2
  | [], _, ρ, h => ⟨ρ, rfl, h⟩
  | x :: xs, hb, ρ, h => by
    obtain ⟨ρ1, e1, ρ2, e2, h2⟩ := hb x List.mem_cons_self ρ h
    obtain ⟨ρ3, e3, h3⟩ := loop_go (xs := xs) (fun y hy => hb y (List.mem_cons_of_mem _ hy)) ρ2 h2
    refine ⟨ρ3, ?_, h3⟩
    rw [loopF, e1]
    simp only [e2]
    exact e3
theorem m_deed_word {c : Act} (hc : VA c) : m__law_deed_in [.str (wordA c)] = .ok (encA c) :=
  deeds (fun c => m__law_deed_in [.str (wordA c)] = .ok (encA c)) (by kernel_rfl) (fun s hs k hk => by
    simp only [List.mem_cons, List.not_mem_nil, or_false] at hs hk
    rcases hs with rfl | rfl | rfl | rfl | rfl <;> rcases hk with rfl | rfl | rfl | rfl <;> kernel_rfl) (m := 4) (by decide) hc
def tyW (s : Int) (k : Nat) : Str := wordA (some (s, k))
theorem word_expr {s : Int} {k : Nat} (hs : s ∈ [(-2 : Int), -1, 0, 1, 2]) (hk : k ∈ [0, 1, 2, 3]) (w : D) (σ : List D) : eOp addD (eOp addD (eCB strcD (aCons (eVar 1) aNil)) (eC (.str ":"))) (eCB strcD (aCons (eVar 2) aNil)) (vw (fz [] [.d w, .d (.int s), .d (.int k)])) σ = .ok (.str (wordA (some (s, k))), σ) := by
  simp only [List.mem_cons, List.not_mem_nil, or_false] at hs hk
  have e : (vw (fz [] [.d w, .d (.int s), .d (.int k)])) = [some w, some (.int s), some (.int k)] := rfl
  rw [e]
  rcases hs with rfl | rfl | rfl | rfl | rfl <;> rcases hk with rfl | rfl | rfl | rfl <;> rfl
theorem m_deed_none {w : Str} (h : actOf w = none) : m__law_deed_in [.str w] = .ok (.str "none") := by
  have n0 : ¬ w = "-" := fun e => actOf_none h (c := none) (fun _ _ z => nomatch z) e.symm
  have ne : ∀ s ∈ [(-2 : Int), -1, 0, 1, 2], ∀ k ∈ [0, 1, 2, 3], eqD (.str w) (.str (wordA (some (s, k)))) = some (.bool false) := fun s hs k hk => by
    rw [eqS, decide_eq_false]
    exact fun e => actOf_none h (c := some (s, k)) (fun s' k' z => by
      cases z
      simp only [List.mem_cons, List.not_mem_nil, or_false] at hs hk
      omega) e.symm
  unfold m__law_deed_in
  rw [s_runF]
  unfold g__law_deed_in
  show (gSeq _ _ [.d (.str w), .un, .un] []).out = _
  have e1 := eqS w "-"
  rw [decide_eq_false n0] at e1
  rw [s_gSeq, s_gIf]
  have t1 : tE (eOp eqD (eVar 0) (eC (.str "-"))) (vw (fz [] [.d (.str w), .un, .un])) [] = .ok (false, []) := by simp [e1]
  rw [t1, exprS_ok]
  simp only [Bool.false_eq_true, if_false]
  rw [show gNext [L.d (.str w), .un, .un] [] = .nx [.d (.str w), .un, .un] [] from rfl, seq_nx, s_gSeq, s_gFor]
  have w1 : wSeq (eTupS (aCons (eUn negD (eC (.int 2))) (aCons (eUn negD (eC (.int 1))) (aCons (eC (.int 0)) (aCons (eC (.int 1)) (aCons (eC (.int 2)) aNil)))))) (vw (fz [] [.d (.str w), .un, .un])) [] = .ok (([(-2 : Int), -1, 0, 1, 2]).map .int, []) := by kernel_rfl
  rw [w1, exprS_ok, s_fz0]
  obtain ⟨ρ2, e2, x2, y2, h2⟩ := loop_go (tg := tgN 1) (s := []) (I := fun ρ => ∃ x y, ρ = [.d (.str w), x, y]) (A := gFor [] (wRng rng1 (aCons (eC (.int 4)) aNil)) (tgN 2) (gIf [] (tE (eOp eqD (eVar 0) (eOp addD (eOp addD (eCB strcD (aCons (eVar 1) aNil)) (eC (.str ":"))) (eCB strcD (aCons (eVar 2) aNil))))) (gRet [] (eTupS (aCons (eVar 1) (aCons (eVar 2) aNil)))) gNext))
    (xs := ([(-2 : Int), -1, 0, 1, 2]).map .int) (fun d hd ρ ⟨x, y, e⟩ => by
      obtain ⟨s, hs, rfl⟩ := List.mem_map.mp hd
      subst e
      refine ⟨_, rfl, ?_⟩
      show ∃ ρ2, gFor [] _ (tgN 2) _ [.d (.str w), .d (.int s), y] [] = .nx ρ2 [] ∧ _
      rw [s_gFor]
      have w2 : wRng rng1 (aCons (eC (.int 4)) aNil) (vw (fz [] [.d (.str w), .d (.int s), y])) [] = .ok (([0, 1, 2, 3] : List Nat).map fun k : Nat => PyData.int (k : Int), []) := by rfl
      rw [w2, exprS_ok, s_fz0]
      obtain ⟨ρ3, e3, y3, h3⟩ := loop_go (tg := tgN 2) (s := []) (I := fun ρ => ∃ y, ρ = [.d (.str w), .d (.int s), y]) (A := gIf [] (tE (eOp eqD (eVar 0) (eOp addD (eOp addD (eCB strcD (aCons (eVar 1) aNil)) (eC (.str ":"))) (eCB strcD (aCons (eVar 2) aNil))))) (gRet [] (eTupS (aCons (eVar 1) (aCons (eVar 2) aNil)))) gNext)
        (xs := ([0, 1, 2, 3] : List Nat).map fun k : Nat => PyData.int (k : Int)) (fun d hd ρ ⟨y, e⟩ => by
          obtain ⟨k, hk, rfl⟩ := List.mem_map.mp hd
          subst e
          refine ⟨_, rfl, _, ?_, .d (.int k), rfl⟩
          show gIf [] _ _ _ [.d (.str w), .d (.int s), .d (.int k)] [] = _
          rw [s_gIf]
          have t2 : tE (eOp eqD (eVar 0) (eOp addD (eOp addD (eCB strcD (aCons (eVar 1) aNil)) (eC (.str ":"))) (eCB strcD (aCons (eVar 2) aNil)))) (vw (fz [] [.d (.str w), .d (.int s), .d (.int k)])) [] = .ok (false, []) := by
            have we := word_expr hs hk (.str w) []
            have n1 := ne s hs k hk
            show ((((eVar 0 (vw (fz [] [.d (.str w), .d (.int s), .d (.int k)])) []).bind fun x => (eOp addD _ _ _ x.2).bind fun y => ofO (eqD x.1 y.1) y.2)).bind _) = _
            rw [show eVar 0 (vw (fz [] [.d (.str w), .d (.int s), .d (.int k)])) [] = .ok (.str w, []) from rfl, bind_ok, we, bind_ok, n1]
            rfl
          rw [t2, exprS_ok]
          rfl) [.d (.str w), .d (.int s), y] ⟨y, rfl⟩
      exact ⟨ρ3, e3, _, y3, h3⟩) [.d (.str w), .un, .un] ⟨.un, .un, rfl⟩
  rw [e2, seq_nx, h2]
  rfl
theorem m_deed_any (w : Str) : m__law_deed_in [.str w] = .ok (dinD w) := by
  unfold dinD
  cases h : actOf w with
  | some c => obtain ⟨rfl, hc⟩ := actOf_some h; exact m_deed_word hc
  | none => exact m_deed_none h
end Lw
end

section
set_option Elab.async false
set_option linter.all false
set_option maxRecDepth 100000
set_option maxHeartbeats 4000000
/-! The plain law of k10, part b: a line by the program and by the law. -/
namespace Lw
open PySem PySem.Spec PyProof.Rows L2 DL
inductive Ln where
  | row (r : List Act)
  | mark (q : Bool × Int)
def Ln.ok : Ln → Prop
  | .row r => RowOk r
  | .mark q => 1 ≤ q.2 ∧ q.2 ≤ 4
def lnS : Ln → Str
  | .row r => lineS r
  | .mark q => notS q
def lnD : Ln → D
  | .row r => lineP r
  | .mark q => notP q
abbrev R4 (t : Str) (w : Str) (ws : List Str) (x : Option D) : Rho := [some (.str t), some (.list (.str w :: ws.map .str)), x, none]
theorem cut1 (w : D) (ws : List D) : slD (.list (w :: ws)) (some 1) none = some (.list ws) := by
  show some (PyData.list (DL.cutD _ (some ((1 : Nat) : Int)) none)) = _
  unfold DL.cutD
  rw [HT.sIx_nat, HT.sIx_none, Nat.min_eq_left (by simp)]
  simp
theorem lc_words4 {e : EM} {g : Str → D} {t w : Str} {ws : List Str} {x : Option D} (hl : ws.length ≤ 1000000) (he : ∀ y ∈ ws, e ((R4 t w ws x).set 3 (some (.str y))) [] = .ok (g y, [])) :
    eLc (wSeq (eSl (eVar 1) (oSome (eC (.int 1))) oNone)) [3] (rtN 3) tYesD e (R4 t w ws x) [] = .ok (.list (ws.map g), []) := by
  have key := lcF_map (e := e) (enc := fun y => .str y) (g := g) (i := 3) (ρ := R4 t w ws x) (s := []) (xs := ws) he
  have w1 : wSeq (eSl (eVar 1) (oSome (eC (.int 1))) oNone) (R4 t w ws x) [] = .ok (ws.map fun y => PyData.str y, []) := by
    show ((ofO (slD (.list (.str w :: ws.map .str)) (some 1) none) []).bind fun z => ofO (itemsOf z.1) z.2) = _
    rw [cut1]
    rfl
  have e1 : wpR (R4 t w ws x) [3] = R4 t w ws x := by simp [wpR, R4]
  unfold eLc
  rw [w1]
  simp only [bind_ok]
  rw [if_pos (show small (ws.map fun y => PyData.str y).length = true from decide_eq_true (by rw [List.length_map]; exact hl)), e1, key]
  rfl
/-! ### the program -/
def lineD (ws : List Str) : D := .tuple (ws.map actD)
theorem lineD_gd {ws : List Str} (h : ws.length ≤ 1000) : Gd 1000 2 (lineD ws) := .tup (by rw [List.length_map]; omega) fun d hd => by
  obtain ⟨w, _, rfl⟩ := List.mem_map.mp hd
  exact actD_gd w
theorem isLine_of (ws : List Str) : isLineB 4 (lineD ws) = (decide (ws.length = 4) && ws.all fun w => (actOf w).isSome) := by
  show (decide ((ws.map actD).length = 4) && (ws.map actD).all (isActB 4)) = _
  rw [List.length_map, List.all_map]
  rw [show (isActB 4 ∘ actD) = fun w => (actOf w).isSome from funext isAct_of]
section
variable {t w : Str} {ws : List Str} (hl : ws.length ≤ 1000) (hw : ∀ y ∈ ws, y.length ≤ 1000) (ht : t.length ≤ 1000) (hs : Txt.split t " " = w :: ws)
include hl hw ht hs
theorem prog_start (K : SM) : gSeq (gAsg [] (eSplit (eVar 0) (eC (.str " "))) (tgN 1)) K [.d (.str t), .un, .un, .un] [] = K [.d (.str t), .d (.list (.str w :: ws.map .str)), .un, .un] [] := by
  have sp := split_any (x := t) (y := " ") l1B (by omega)
  rw [hs, List.map_cons] at sp
  have st1 : gAsg [] (eSplit (eVar 0) (eC (.str " "))) (tgN 1) [.d (.str t), .un, .un, .un] [] = .nx [.d (.str t), .d (.list (.str w :: ws.map .str)), .un, .un] [] := by simp [sp]
  rw [s_gSeq, st1, seq_nx]
theorem m_line_1 (h : w = "line") : m_line_in [.str t] = .ok (if isLineB 4 (lineD ws) then .tuple [.str "line", lineD ws] else .none) := by
  subst h
  have il := m_is_line_any (B := 1000) (by decide) (lineD_gd hl) 4
  have eq1 : eqD (.str "line") (.str "line") = some (.bool true) := by kernel_rfl
  have lc := lc_words4 (e := eCall m_action_in (aCons (eVar 3) aNil)) (g := actD) (t := t) (w := "line") (ws := ws) (x := none) (by omega) fun y hy => by
    have := m_action_any (w := y) (by have := hw y hy; omega)
    simp [this]
  unfold m_line_in
  rw [s_runF]
  unfold g_line_in
  show (gSeq _ _ [.d (.str t), .un, .un, .un] []).out = _
  rw [prog_start hl hw ht hs, s_gSeq, s_gIf]
  have t1 : tE (eOp eqD (eOp ixD (eVar 1) (eC (.int 0))) (eC (.str "line"))) (vw (fz [] [.d (.str t), .d (.list (.str "line" :: ws.map .str)), .un, .un])) [] = .ok (true, []) := by simp [eq1]
  rw [t1, exprS_ok]
  simp only [if_true]
  have st2 : gAsg [] (eCB tupleD (aCons (eLc (wSeq (eSl (eVar 1) (oSome (eC (.int 1))) oNone)) [3] (rtN 3) tYesD (eCall m_action_in (aCons (eVar 3) aNil))) aNil)) (tgN 2) [.d (.str t), .d (.list (.str "line" :: ws.map .str)), .un, .un] [] = .nx [.d (.str t), .d (.list (.str "line" :: ws.map .str)), .d (lineD ws), .un] [] := by
    rw [s_gAsg, s_fz0]
    show exprS (((eLc _ _ _ _ _ (R4 t "line" ws none) []).bind fun z => (R.ok ([], z.2)).bind fun y => .ok (z.1 :: y.1, y.2)).bind fun z => ofO (tupleD z.1) z.2) _ = _
    rw [lc]
    rfl
  rw [s_gSeq, st2, seq_nx]
  have il' : m_is_line [lineD ws, .int 4] = .ok (.bool (isLineB 4 (lineD ws))) := il
  generalize isLineB 4 (lineD ws) = b at il' ⊢
  generalize lineD ws = d at il' ⊢
  generalize ws.map PyData.str = W
  cases b <;> simp [il']
theorem m_line_2 (h : w = "notch") {e f : Str} (h2 : ws = [e, f]) : m_line_in [.str t] = .ok (if isNotB (.tuple [.str e, getT tab_FIGURES f]) then .tuple [.str "notch", .tuple [.str e, getT tab_FIGURES f]] else .none) := by
  subst h h2
  have g : Gd 1000 1 (.tuple [.str e, getT tab_FIGURES f]) := .tup (by simp) fun d hd => by
    rcases List.mem_cons.mp hd with rfl | hd
    · exact .str (by have := hw e (by simp); omega)
    · rcases List.mem_cons.mp hd with rfl | hd
      · exact getT_gd (by decide) _
      · cases hd
  have il := m_is_notch_any g
  have eq1 : eqD (.str "notch") (.str "line") = some (.bool false) := by kernel_rfl
  have eq2 : eqD (.str "notch") (.str "notch") = some (.bool true) := by kernel_rfl
  have gd := getTD_str tab_FIGURES f
  unfold m_line_in
  rw [s_runF]
  unfold g_line_in
  show (gSeq _ _ [.d (.str t), .un, .un, .un] []).out = _
  rw [prog_start hl hw ht hs]
  generalize getT tab_FIGURES f = v at il gd ⊢
  generalize isNotB (.tuple [.str e, v]) = b at il ⊢
  cases b <;> simp [eq1, eq2, gd, il, s_eqI]
theorem m_line_3 (h : w ≠ "line") (h2 : w ≠ "notch" ∨ ws.length ≠ 2) : m_line_in [.str t] = .ok .none := by
  have eq1 := eqS w "line"
  rw [decide_eq_false h] at eq1
  have eq2 := eqS w "notch"
  unfold m_line_in
  rw [s_runF]
  unfold g_line_in
  show (gSeq _ _ [.d (.str t), .un, .un, .un] []).out = _
  rw [prog_start hl hw ht hs]
  by_cases hn : w = "notch"
  · have h3 : ws.length ≠ 2 := h2.resolve_left fun z => z hn
    rw [decide_eq_true hn] at eq2
    have h4 : ¬ (ws.length : Int) + 1 = 3 := by omega
    simp [eq1, eq2, s_eqI, h4]
  · rw [decide_eq_false hn] at eq2
    simp [eq1, eq2]
/-! ### the law -/
theorem m_lline_1 (h : w = "line") (h4 : ws.length = 4) : m__law_line_in [.str t] = .ok (if ws.all fun y => (actOf y).isSome then .tuple [.str "line", .tuple (ws.map dinD)] else .none) := by
  subst h
  have eq1 : eqD (.str "line") (.str "line") = some (.bool true) := by kernel_rfl
  have lc := lc_words4 (e := eCall m__law_deed_in (aCons (eVar 3) aNil)) (g := dinD) (t := t) (w := "line") (ws := ws) (x := none) (by omega) fun y hy => by
    have := m_deed_any y
    simp [this]
  have inn : inD (.str "none") (.tuple (ws.map dinD)) = some (.bool (!ws.all fun y => (actOf y).isSome)) := by
    have hp : pln (.str "none") (.tuple (ws.map dinD)) = true := by
      have : PyData.plainAll (ws.map dinD) = true := plainAll_map fun y _ => by
        unfold dinD
        split
        · exact plain_act _
        · rfl
      unfold pln shal
      rw [PyData.plain, PyData.plain, this]
      rfl
    show ((some (ws.map dinD)).bind fun ys => if pln (.str "none") (.tuple (ws.map dinD)) then some (PyData.bool (ys.any fun z => PyData.eqv z (.str "none"))) else none) = _
    rw [Option.bind_some, hp, if_pos rfl, List.any_map]
    have fe : ((fun z => PyData.eqv z (.str "none")) ∘ dinD) = fun y => !(actOf y).isSome := funext fun y => by
      show PyData.eqv (dinD y) (.str "none") = _
      unfold dinD
      cases actOf y with
      | none => rfl
      | some c => cases c with
        | none => rfl
        | some x => obtain ⟨s, k⟩ := x; rfl
    rw [fe, List.not_all_eq_any_not]
  unfold m__law_line_in
  rw [s_runF]
  unfold g__law_line_in
  show (gSeq _ _ [.d (.str t), .un, .un, .un] []).out = _
  rw [prog_start hl hw ht hs, s_gSeq, s_gIf]
  have t1 : tAn (tE (eOp eqD (eOp ixD (eVar 1) (eC (.int 0))) (eC (.str "line")))) (tE (eOp eqD (eCB lenD (aCons (eVar 1) aNil)) (eC (.int 5)))) (vw (fz [] [.d (.str t), .d (.list (.str "line" :: ws.map .str)), .un, .un])) [] = .ok (true, []) := by simp [eq1, s_eqI, h4]
  rw [t1, exprS_ok]
  simp only [if_true]
  have st2 : gAsg [] (eCB tupleD (aCons (eLc (wSeq (eSl (eVar 1) (oSome (eC (.int 1))) oNone)) [3] (rtN 3) tYesD (eCall m__law_deed_in (aCons (eVar 3) aNil))) aNil)) (tgN 2) [.d (.str t), .d (.list (.str "line" :: ws.map .str)), .un, .un] [] = .nx [.d (.str t), .d (.list (.str "line" :: ws.map .str)), .d (.tuple (ws.map dinD)), .un] [] := by
    rw [s_gAsg, s_fz0]
    show exprS (((eLc _ _ _ _ _ (R4 t "line" ws none) []).bind fun z => (R.ok ([], z.2)).bind fun y => .ok (z.1 :: y.1, y.2)).bind fun z => ofO (tupleD z.1) z.2) _ = _
    rw [lc]
    rfl
  rw [s_gSeq, st2, seq_nx]
  generalize (ws.all fun y => (actOf y).isSome) = b at inn ⊢
  generalize ws.map dinD = d at inn ⊢
  generalize ws.map PyData.str = W
  cases b <;> simp [inn]
theorem m_lline_0 (h : w = "line") (h4 : ws.length ≠ 4) : m__law_line_in [.str t] = .ok .none := by
  subst h
  have eq1 : eqD (.str "line") (.str "line") = some (.bool true) := by kernel_rfl
  have eq2 : neD (.str "line") (.str "notch") = some (.bool true) := by kernel_rfl
  have h5 : ¬ (ws.length : Int) + 1 = 5 := by omega
  unfold m__law_line_in
  rw [s_runF]
  unfold g__law_line_in
  show (gSeq _ _ [.d (.str t), .un, .un, .un] []).out = _
  rw [prog_start hl hw ht hs]
  simp [eq1, eq2, s_eqI, h5]
theorem m_lline_3 (h : w ≠ "line") (h2 : w ≠ "notch" ∨ ws.length ≠ 2) : m__law_line_in [.str t] = .ok .none := by
  have eq1 := eqS w "line"
  rw [decide_eq_false h] at eq1
  have eq2 := neS w "notch"
  unfold m__law_line_in
  rw [s_runF]
  unfold g__law_line_in
  show (gSeq _ _ [.d (.str t), .un, .un, .un] []).out = _
  rw [prog_start hl hw ht hs]
  by_cases hn : w = "notch"
  · have h3 : ws.length ≠ 2 := h2.resolve_left fun z => z hn
    rw [decide_eq_true hn] at eq2
    have h4 : ¬ (ws.length : Int) + 1 = 3 := by omega
    simp [eq1, eq2, s_eqI, s_neI, h4]
  · rw [decide_eq_false hn] at eq2
    simp [eq1, eq2]
def endB (e : Str) : Bool := decide (e = "head") || decide (e = "tail")
def figB (f : Str) : Bool := decide (f = "1") || (decide (f = "2") || (decide (f = "3") || decide (f = "4")))
theorem m_lline_2 (h : w = "notch") {e f : Str} (h2 : ws = [e, f]) (hn : endB e = false ∨ figB f = false) : m__law_line_in [.str t] = .ok .none := by
  subst h h2
  have eq1 : eqD (.str "notch") (.str "line") = some (.bool false) := by kernel_rfl
  have eq2 : neD (.str "notch") (.str "notch") = some (.bool false) := by kernel_rfl
  have sw : ∀ x y : Str, PyData.eqv (.str x) (.str y) = decide (y = x) := fun x y => by
    show (x == y) = _
    by_cases z : y = x
    · subst z; simp
    · rw [decide_eq_false z]; simpa using fun q => z q.symm
  have in1 : notInD (.str e) (.list [.str "head", .str "tail"]) = some (.bool (!endB e)) := by
    show some (PyData.bool (!([PyData.str "head", .str "tail"].any fun z => PyData.eqv z (.str e)))) = _
    simp only [List.any_cons, List.any_nil, Bool.or_false, sw]
    rfl
  have in2 : inD (.str f) (.list [.str "1", .str "2", .str "3", .str "4"]) = some (.bool (figB f)) := by
    show some (PyData.bool ([PyData.str "1", .str "2", .str "3", .str "4"].any fun z => PyData.eqv z (.str f))) = _
    simp only [List.any_cons, List.any_nil, Bool.or_false, sw]
    rfl
  unfold m__law_line_in
  rw [s_runF]
  unfold g__law_line_in
  show (gSeq _ _ [.d (.str t), .un, .un, .un] []).out = _
  rw [prog_start hl hw ht hs]
  rcases hn with hn | hn
  · rw [hn] at in1
    simp [eq1, eq2, s_eqI, s_neI, in1]
  · rw [hn] at in2
    cases hb : endB e with
    | false => rw [hb] at in1; simp [eq1, eq2, s_eqI, s_neI, in1]
    | true => rw [hb] at in1; simp [eq1, eq2, s_eqI, s_neI, in1, in2]
end
end Lw
end

section
set_option Elab.async false
set_option linter.all false
set_option maxRecDepth 100000
set_option maxHeartbeats 4000000
/-! The plain law of k10, part c: both read a line alike. -/
namespace Lw
open PySem PySem.Spec PyProof.Rows L2 DL
def optD : Option Ln → D
  | none => .none
  | some l => lnD l
theorem words_of : ∀ {ws : List Str}, (ws.all fun y => (actOf y).isSome) = true → ∃ r : List Act, ws = r.map wordA ∧ ∀ c ∈ r, VA c
  | [], _ => ⟨[], rfl, fun _ h => by cases h⟩
  | w :: ws, h => by
    rw [List.all_cons] at h
    obtain ⟨h1, h2⟩ := He.ba h
    obtain ⟨r, e, hr⟩ := words_of h2
    obtain ⟨c, hc⟩ := Option.isSome_iff_exists.mp h1
    obtain ⟨e1, v⟩ := actOf_some hc
    refine ⟨c :: r, by rw [List.map_cons, e1, e], fun x hx => ?_⟩
    rcases List.mem_cons.mp hx with rfl | hx
    · exact v
    · exact hr x hx
theorem din_word {c : Act} (hc : VA c) : dinD (wordA c) = encA c := by
  have h1 := m_deed_any (wordA c)
  rw [m_deed_word hc] at h1
  injection h1 with h1
  exact h1.symm
theorem m_lline_not {q : Bool × Int} (hq : 1 ≤ q.2 ∧ q.2 ≤ 4) : m__law_line_in [.str (notS q)] = .ok (.tuple [.str "notch", encN q]) :=
  nots (fun q => m__law_line_in [.str (notS q)] = .ok (.tuple [.str "notch", encN q])) (fun b hb k hk => by
    simp only [List.mem_cons, List.not_mem_nil, or_false] at hb hk
    rcases hb with rfl | rfl <;> rcases hk with rfl | rfl | rfl | rfl <;> kernel_rfl) hq
theorem mark_text {e f : Str} (h1 : endB e = true) (h2 : figB f = true) : ∃ q : Bool × Int, (1 ≤ q.2 ∧ q.2 ≤ 4) ∧ Txt.join " " ["notch", e, f] = notS q := by
  unfold endB at h1
  unfold figB at h2
  simp only [Bool.or_eq_true, decide_eq_true_eq] at h1 h2
  rcases h1 with rfl | rfl
  · rcases h2 with rfl | rfl | rfl | rfl
    · exact ⟨(true, 1), by decide, by kernel_rfl⟩
    · exact ⟨(true, 2), by decide, by kernel_rfl⟩
    · exact ⟨(true, 3), by decide, by kernel_rfl⟩
    · exact ⟨(true, 4), by decide, by kernel_rfl⟩
  · rcases h2 with rfl | rfl | rfl | rfl
    · exact ⟨(false, 1), by decide, by kernel_rfl⟩
    · exact ⟨(false, 2), by decide, by kernel_rfl⟩
    · exact ⟨(false, 3), by decide, by kernel_rfl⟩
    · exact ⟨(false, 4), by decide, by kernel_rfl⟩
theorem notB_no {e f : Str} (h : endB e = false ∨ figB f = false) : isNotB (.tuple [.str e, getT tab_FIGURES f]) = false := by
  cases q : isNotB (.tuple [.str e, getT tab_FIGURES f]) with
  | false => rfl
  | true =>
    obtain ⟨⟨b, k⟩, e1, a1, a2⟩ := notB_enc q
    have e2 : PyData.tuple [.str e, getT tab_FIGURES f] = .tuple [.str (endS b), .int k] := e1
    injection e2 with e2
    injection e2 with e3 e4
    injection e3 with e3
    injection e4 with e4
    obtain ⟨_, _, p⟩ := fig_str (look_mem e4)
    dsimp only at a1 a2
    rcases h with h | h
    · rw [e3] at h
      cases b with
      | true => exact absurd h (by decide +kernel)
      | false => exact absurd h (by decide +kernel)
    · rw [p] at h
      have : k = 1 ∨ k = 2 ∨ k = 3 ∨ k = 4 := by omega
      rcases this with rfl | rfl | rfl | rfl
      · exact absurd h (by decide +kernel)
      · exact absurd h (by decide +kernel)
      · exact absurd h (by decide +kernel)
      · exact absurd h (by decide +kernel)
theorem line_any {t : Str} (ht : t.length ≤ 900) : ∃ o : Option Ln, (∀ l, o = some l → l.ok ∧ t = lnS l) ∧ m_line_in [.str t] = .ok (optD o) ∧ m__law_line_in [.str t] = .ok (optD o) := by
  have ft := fitB t
  have back := split_back t " "
  cases hs : Txt.split t " " with
  | nil => have := ft.one; rw [hs] at this; exact absurd this (by decide)
  | cons w ws =>
  have h1 : ws.length ≤ 1000 := by have := ft.few; rw [hs, List.length_cons] at this; omega
  have h2 : ∀ y ∈ ws, y.length ≤ 1000 := fun y hy => by have := ft.part (p := y) (by rw [hs]; exact List.mem_cons_of_mem _ hy); omega
  have ht' : t.length ≤ 1000 := by omega
  rw [hs] at back
  by_cases hl : w = "line"
  · have pr := m_line_1 h1 h2 ht' hs hl
    rw [isLine_of] at pr
    by_cases h4 : ws.length = 4
    · have lw := m_lline_1 h1 h2 ht' hs hl h4
      rw [decide_eq_true h4, Bool.true_and] at pr
      cases ha : ws.all fun y => (actOf y).isSome with
      | false =>
        rw [ha] at pr lw
        exact ⟨none, fun _ z => (nomatch z), pr, lw⟩
      | true =>
        rw [ha] at lw
        obtain ⟨r, rfl, hr⟩ := words_of ha
        have r4 : r.length = 4 := by rwa [List.length_map] at h4
        have ro : RowOk r := ⟨r4, fun c hc s k e => hr c hc s k e⟩
        have et : t = lineS r := by
          rw [← back, hl]
          exact (line_join (fun e => by rw [e] at r4; cases r4)).symm
        refine ⟨some (.row r), fun l e => by cases e; exact ⟨ro, et⟩, ?_, ?_⟩
        · rw [et]; exact m_line_line ro
        · rw [lw, if_pos rfl, List.map_map]
          show R.ok (PyData.tuple [.str "line", .tuple (r.map (dinD ∘ wordA))]) = R.ok (PyData.tuple [.str "line", .tuple (r.map encA)])
          rw [List.map_congr_left (f := dinD ∘ wordA) (g := encA) fun c hc => din_word (hr c hc)]
    · rw [decide_eq_false h4, Bool.false_and] at pr
      exact ⟨none, fun _ z => (nomatch z), pr, m_lline_0 h1 h2 ht' hs hl h4⟩
  · by_cases hn : w = "notch" ∧ ws.length = 2
    · obtain ⟨hn, h3⟩ := hn
      match ws, h3 with
      | [e, f], _ =>
        by_cases hg : endB e = true ∧ figB f = true
        · obtain ⟨q, hq, eq⟩ := mark_text hg.1 hg.2
          have et : t = notS q := by rw [← back, hn]; exact eq
          refine ⟨some (.mark q), fun l e => by cases e; exact ⟨hq, et⟩, ?_, ?_⟩
          · rw [et]; exact m_line_not hq
          · rw [et]; exact m_lline_not hq
        · have hg' : endB e = false ∨ figB f = false := by
            cases h : endB e with
            | false => exact .inl rfl
            | true => exact .inr (by simpa [h] using hg)
          have pr := m_line_2 h1 h2 ht' hs hn rfl
          rw [notB_no hg'] at pr
          exact ⟨none, fun _ z => (nomatch z), pr, m_lline_2 h1 h2 ht' hs hn rfl hg'⟩
    · have h3 : w ≠ "notch" ∨ ws.length ≠ 2 := by
        by_cases h : w = "notch"
        · exact .inr fun z => hn ⟨h, z⟩
        · exact .inl h
      exact ⟨none, fun _ z => (nomatch z), m_line_3 h1 h2 ht' hs hl h3, m_lline_3 h1 h2 ht' hs hl h3⟩
end Lw
end

section
set_option Elab.async false
set_option linter.all false
set_option maxRecDepth 100000
set_option maxHeartbeats 4000000
/-! The plain law of k10, part d: rows. -/
namespace DL
open PySem PySem.Spec PyProof.Rows L2
/-- a comprehension that keeps some -/
theorem lcF_sel {α : Type} {t : RtM} {c : TM} {e : EM} {ρ : Rho} {s : List D} {enc g : α → D} {p : α → Bool} : ∀ {xs : List α}, (∀ x ∈ xs, ∃ ρ1, t (enc x) ρ = some ρ1 ∧ c ρ1 s = .ok (p x, s) ∧ e ρ1 s = .ok (g x, s)) → lcF t c e (xs.map enc) ρ s = .ok ((xs.filter p).map g, s)
  | [], _ => rfl
  | x :: xs, h => by
    have ih := lcF_sel (xs := xs) fun y hy => h y (List.mem_cons_of_mem _ hy)
    obtain ⟨ρ1, h1, h2, h3⟩ := h x List.mem_cons_self
    rw [List.map_cons, lcF]
    simp only [h1, h2, nox_ok, bind_ok]
    cases hp : p x with
    | true =>
      simp only [if_true, h3, nox_ok, bind_ok]
      rw [ih, List.filter_cons_of_pos hp]
      rfl
    | false =>
      simp only [Bool.false_eq_true, if_false]
      rw [ih, List.filter_cons_of_neg (by simp [hp])]
/-- lists of texts, compared -/
theorem eqv_strs : ∀ xs ys : List Str, PyData.eqvAll (xs.map .str) (ys.map .str) = decide (xs = ys)
  | [], [] => rfl
  | [], _ :: _ => rfl
  | _ :: _, [] => rfl
  | x :: xs, y :: ys => by
    rw [List.map_cons, List.map_cons, PyData.eqvAll, eqv_strs xs ys]
    have e : PyData.eqv (.str x) (.str y) = decide (x = y) := by
      show (x == y) = decide (x = y)
      by_cases h : x = y
      · subst h; simp
      · rw [decide_eq_false h]; simpa using h
    rw [e]
    by_cases h : x = y
    · by_cases h2 : xs = ys <;> simp [h, h2]
    · simp [h]
theorem strs_plain (xs : List Str) : PyData.plainAll (xs.map .str) = true := plainAll_mem fun d hd => by obtain ⟨_, _, rfl⟩ := List.mem_map.mp hd; rfl
theorem strs_depth : ∀ xs : List Str, PyData.depthAll (xs.map .str) = 0
  | [] => rfl
  | x :: xs => by rw [List.map_cons, PyData.depthAll, strs_depth xs]; rfl
theorem pln_strs (xs ys : List Str) : pln (.list (xs.map .str)) (.list (ys.map .str)) = true := by
  unfold pln shal
  rw [PyData.plain, PyData.plain, strs_plain, strs_plain, PyData.depth, PyData.depth, strs_depth, strs_depth]
  rfl
theorem ne_strs (xs ys : List Str) : neD (.list (xs.map .str)) (.list (ys.map .str)) = some (.bool (!decide (xs = ys))) := by
  unfold neD
  rw [pln_strs, if_pos rfl, PyData.eqv, eqv_strs]
theorem pln_str_list (x : Str) (ys : List Str) : pln (.str x) (.list (ys.map .str)) = true := by
  unfold pln shal
  rw [PyData.plain, PyData.plain, strs_plain]
  rfl
theorem count_strs (x : Str) (ys : List Str) : countD (.list (ys.map .str)) (.str x) = some (.int (ys.countP fun y => decide (y = x) : Nat)) := by
  show (if pln (.str x) (.list (ys.map .str)) = true then some (PyData.int ((ys.map PyData.str).countP fun y => PyData.eqv y (.str x) : Nat)) else none) = _
  rw [pln_str_list, if_pos rfl, List.countP_map]
  have e : ((fun y => PyData.eqv y (.str x)) ∘ PyData.str) = fun y => decide (y = x) := funext fun y => by
    show (y == x) = decide (y = x)
    by_cases h : y = x
    · subst h; simp
    · rw [decide_eq_false h]; simpa using h
  rw [e]
theorem mul_one_str (x : Str) (k : Nat) (h : k ≤ 1000) : mulLD (.list [.str x]) (.int k) = some (.list ((List.replicate k x).map .str)) := by
  show (if (decide ((0 : Int) ≤ (k : Int)) && (decide ((k : Int) ≤ 1000) && decide ([PyData.str x].length ≤ 1000))) = true then some (PyData.list (List.replicate (k : Int).toNat [PyData.str x]).flatten) else none) = _
  rw [decide_eq_true (show (0 : Int) ≤ (k : Int) by omega), decide_eq_true (show (k : Int) ≤ 1000 by omega), Int.toNat_natCast]
  show some (PyData.list (List.replicate k [PyData.str x]).flatten) = _
  rw [List.flatten_replicate_singleton, List.map_replicate]
theorem add_lists {xs ys : List D} (h : xs.length + ys.length ≤ 1000000) : addD (.list xs) (.list ys) = some (.list (xs ++ ys)) := by
  show (if small (xs.length + ys.length) then some (PyData.list (xs ++ ys)) else none) = _
  rw [show small (xs.length + ys.length) = true from decide_eq_true h]
  rfl
end DL
namespace Lw
open PySem PySem.Spec PyProof.Rows L2 DL
/-! ### rows of lines -/
open Classical in
noncomputable def lnOf (t : Str) : Option Ln := if h : t.length ≤ 900 then Classical.choose (line_any h) else none
theorem lnOf_spec {t : Str} (h : t.length ≤ 900) : (∀ l, lnOf t = some l → l.ok ∧ t = lnS l) ∧ m_line_in [.str t] = .ok (optD (lnOf t)) ∧ m__law_line_in [.str t] = .ok (optD (lnOf t)) := by
  unfold lnOf
  rw [dif_pos h]
  exact Classical.choose_spec (line_any h)
noncomputable def rowsOf (S : Str) : List D := (Txt.split S "\n").map fun t => optD (lnOf t)
theorem lc_rows {S : Str} (hS : S.length ≤ 900) {e : EM} {i : Nat} {ρ : Rho} (h0 : ρ[0]? = some (some (.str S))) (he : ∀ t, t.length ≤ 900 → e ((wpR ρ [i]).set i (some (.str t))) [] = .ok (optD (lnOf t), [])) :
    eLc (wSeq (eSplit (eVar 0) (eC (.str "\n")))) [i] (rtN i) tYesD e ρ [] = .ok (.list (rowsOf S), []) := by
  have ft := fitN S
  have sp := split_any (x := S) (y := "\n") l1N (by omega)
  have w1 : wSeq (eSplit (eVar 0) (eC (.str "\n"))) ρ [] = .ok ((Txt.split S "\n").map fun y => PyData.str y, []) := by
    have v0 : eVar 0 ρ [] = .ok (.str S, []) := by unfold eVar; rw [h0]
    show ((eSplit (eVar 0) (eC (.str "\n")) ρ []).bind _) = _
    rw [s_eSplit, v0]
    simp only [bind_ok, s_isStr, if_true]
    show (((ofO (splitD (.str S) (.str "\n")) [])).bind _) = _
    rw [sp]
    rfl
  have key := lcF_map (e := e) (enc := fun y => .str y) (g := fun t => optD (lnOf t)) (i := i) (ρ := wpR ρ [i]) (s := []) (xs := Txt.split S "\n") fun t ht => he t (Nat.le_trans (ft.part ht) hS)
  unfold eLc
  rw [w1]
  simp only [bind_ok]
  rw [if_pos (show small ((Txt.split S "\n").map fun y => PyData.str y).length = true from decide_eq_true (by rw [List.length_map]; have := ft.few; omega)), key]
  rfl
theorem rows_len {S : Str} (hS : S.length ≤ 900) : (rowsOf S).length ≤ 901 ∧ 1 ≤ (rowsOf S).length := by
  unfold rowsOf
  rw [List.length_map]
  have ft := fitN S
  exact ⟨by have := ft.few; omega, ft.one⟩
theorem RowOk.plain {r : List Act} : (lineP r).plain = true := by unfold lineP; rw [PyData.plain, PyData.plainAll, PyData.plainAll, plain_line]; rfl
theorem optD_plain (o : Option Ln) : (optD o).plain = true := by
  cases o with
  | none => rfl
  | some l => cases l with
    | row r => exact RowOk.plain
    | mark q => rfl
theorem rows_pln (S : Str) : pln .none (.list (rowsOf S)) = true := by
  unfold pln shal
  rw [PyData.plain, PyData.plain, show PyData.plainAll (rowsOf S) = true from plainAll_mem fun d hd => by obtain ⟨t, _, rfl⟩ := List.mem_map.mp hd; exact optD_plain _]
  rfl
theorem eqv_opt (o : Option Ln) : PyData.eqv (optD o) .none = o.isNone := by
  cases o with
  | none => rfl
  | some l => cases l <;> rfl
theorem none_rows (S : Str) : inD .none (.list (rowsOf S)) = some (.bool ((Txt.split S "\n").any fun t => (lnOf t).isNone)) := by
  show ((some (rowsOf S)).bind fun ys => if pln .none (.list (rowsOf S)) then some (PyData.bool (ys.any fun z => PyData.eqv z .none)) else none) = _
  rw [Option.bind_some, rows_pln, if_pos rfl]
  unfold rowsOf
  rw [List.any_map]
  have e : ((fun z => PyData.eqv z .none) ∘ fun t => optD (lnOf t)) = fun t => (lnOf t).isNone := funext fun t => eqv_opt _
  rw [e]
noncomputable def badAt (S : Str) : Nat := ((rowsOf S).map fun y => PyData.eqv y .none).idxOf true
theorem index_rows {S : Str} (h : ((Txt.split S "\n").any fun t => (lnOf t).isNone) = true) : indexD (.list (rowsOf S)) .none = some (.int (badAt S)) := by
  have hm : true ∈ (rowsOf S).map fun y => PyData.eqv y .none := by
    obtain ⟨t, ht, h2⟩ := List.any_eq_true.mp h
    refine List.mem_map.mpr ⟨optD (lnOf t), List.mem_map.mpr ⟨t, ht, rfl⟩, ?_⟩
    rw [eqv_opt]; exact h2
  show (if (pln .none (.list (rowsOf S)) && decide (true ∈ (rowsOf S).map fun y => PyData.eqv y .none)) = true then some (PyData.int ((badAt S : Nat) : Int)) else none) = _
  rw [rows_pln, decide_eq_true hm]
  rfl
/-- all lines are read -/
theorem all_lines {S : Str} (hS : S.length ≤ 900) (h : ((Txt.split S "\n").any fun t => (lnOf t).isNone) = false) : ∃ ls : List Ln, (∀ l ∈ ls, l.ok) ∧ Txt.split S "\n" = ls.map lnS ∧ rowsOf S = ls.map lnD ∧ ls.length = (rowsOf S).length := by
  have ft := fitN S
  have hp : ∀ t ∈ Txt.split S "\n", t.length ≤ 900 := fun t ht => Nat.le_trans (ft.part ht) hS
  unfold rowsOf
  generalize Txt.split S "\n" = T at h hp
  clear ft
  induction T with
  | nil =>
    refine ⟨[], ?_, rfl, rfl, rfl⟩
    intro l hl
    cases hl
  | cons t T ih =>
    rw [List.any_cons, Bool.or_eq_false_iff] at h
    obtain ⟨ls, h1, h2, h3, h4⟩ := ih h.2 fun y hy => hp y (List.mem_cons_of_mem _ hy)
    cases ho : lnOf t with
    | none => rw [ho] at h; exact absurd h.1 (by simp)
    | some l =>
      obtain ⟨k1, k2⟩ := (lnOf_spec (hp t List.mem_cons_self)).1 l ho
      refine ⟨l :: ls, fun x hx => ?_, by rw [List.map_cons, ← h2, ← k2], by rw [List.map_cons, List.map_cons, ho, h3]; rfl, by simp [h4]⟩
      rcases List.mem_cons.mp hx with rfl | hx
      · exact k1
      · exact h1 x hx
/-! ### order and plan -/
def isRow : Ln → Bool
  | .row _ => true
  | .mark _ => false
def tagS : Ln → Str
  | .row _ => "line"
  | .mark _ => "notch"
def valD : Ln → D
  | .row r => encL r
  | .mark q => encN q
theorem lnD_eq (l : Ln) : lnD l = .tuple [.str (tagS l), valD l] := by cases l <;> rfl
def kOf (ls : List Ln) : Nat := (ls.filter isRow).length
def ordB (ls : List Ln) : Bool := (ls.take (kOf ls)).all isRow
def pD (ls : List Ln) : D := .tuple [.tuple ((ls.filter isRow).map valD), .tuple ((ls.filter fun l => !isRow l).map valD)]
theorem k_le (ls : List Ln) : kOf ls ≤ ls.length := List.length_filter_le _ _
theorem tags_rows : ∀ (ls : List Ln), decide (ls.map tagS = List.replicate ls.length ("line" : Str)) = ls.all isRow
  | [] => rfl
  | l :: ls => by
    rw [List.map_cons, List.length_cons, List.replicate_succ, List.all_cons, ← tags_rows ls]
    cases l with
    | row r => simp [tagS, isRow]
    | mark q =>
      have : ¬ tagS (.mark q) = "line" := by show ¬ ("notch" : Str) = "line"; decide +kernel
      simp [isRow, this]
theorem count_row (ls : List Ln) : (ls.map tagS).countP (fun y => decide (y = ("line" : Str))) = kOf ls := by
  unfold kOf
  rw [List.countP_map, ← List.countP_eq_length_filter]
  congr 1
  funext l
  cases l with
  | row r => rfl
  | mark q => show decide (("notch" : Str) = "line") = false; decide +kernel
theorem count_mark (ls : List Ln) : (ls.map tagS).countP (fun y => decide (y = ("notch" : Str))) = ls.length - kOf ls := by
  have e : (ls.map tagS).countP (fun y => decide (y = ("notch" : Str))) = ls.countP fun l => !isRow l := by
    rw [List.countP_map]
    congr 1
    funext l
    cases l with
    | row r => show decide (("line" : Str) = "notch") = false; decide +kernel
    | mark q => rfl
  rw [e]
  have h := List.length_eq_countP_add_countP (p := isRow) (l := ls)
  have h2 : (List.countP (fun a => decide (¬isRow a = true)) ls) = ls.countP fun l => !isRow l := by
    congr 1
    funext l
    cases isRow l <;> rfl
  unfold kOf
  rw [← List.countP_eq_length_filter]
  omega
theorem ord_split : ∀ {ls : List Ln}, ordB ls = true → ls = ls.filter isRow ++ ls.filter fun l => !isRow l
  | [], _ => rfl
  | l :: ls, h => by
    cases hr : isRow l with
    | true =>
      have h2 : ordB ls = true := by
        unfold ordB kOf at h ⊢
        rw [List.filter_cons_of_pos hr, List.length_cons, List.take_succ_cons, List.all_cons] at h
        exact (He.ba h).2
      rw [List.filter_cons_of_pos hr, List.filter_cons_of_neg (by simp [hr]), List.cons_append, ← ord_split h2]
    | false =>
      have h0 : kOf (l :: ls) = 0 := by
        unfold ordB at h
        cases hk : kOf (l :: ls) with
        | zero => rfl
        | succ n => rw [hk, List.take_succ_cons, List.all_cons, hr] at h; cases h
      have h1 : (l :: ls).filter isRow = [] := List.length_eq_zero_iff.mp h0
      have h2 : (l :: ls).filter (fun x => !isRow x) = l :: ls := by
        refine List.filter_eq_self.mpr fun x hx => ?_
        have := (List.filter_eq_nil_iff.mp h1) x hx
        simpa using this
      rw [h1, h2]; rfl
theorem names_ord (ls : List Ln) : decide (ls.map tagS = List.replicate (kOf ls) ("line" : Str) ++ List.replicate (ls.length - kOf ls) ("notch" : Str)) = ordB ls := by
  cases h : ordB ls with
  | true =>
    refine decide_eq_true ?_
    have e := ord_split h
    have e1 : (ls.filter isRow).map tagS = List.replicate (kOf ls) ("line" : Str) := by
      refine List.eq_replicate_iff.mpr ⟨by rw [List.length_map]; rfl, fun x hx => ?_⟩
      obtain ⟨l, hl, rfl⟩ := List.mem_map.mp hx
      have := (List.mem_filter.mp hl).2
      cases l with
      | row r => rfl
      | mark q => cases this
    have e2 : (ls.filter fun l => !isRow l).map tagS = List.replicate (ls.length - kOf ls) ("notch" : Str) := by
      refine List.eq_replicate_iff.mpr ⟨?_, fun x hx => ?_⟩
      · rw [List.length_map]
        have := congrArg List.length e
        rw [List.length_append] at this
        unfold kOf
        omega
      · obtain ⟨l, hl, rfl⟩ := List.mem_map.mp hx
        have := (List.mem_filter.mp hl).2
        cases l with
        | row r => cases this
        | mark q => rfl
    rw [← e1, ← e2, ← List.map_append, ← e]
  | false =>
    refine decide_eq_false fun e => ?_
    have e2 := congrArg (List.take (kOf ls)) e
    rw [← List.map_take, List.take_left' (by rw [List.length_replicate])] at e2
    have e3 := tags_rows (ls.take (kOf ls))
    rw [List.length_take, Nat.min_eq_left (k_le ls), decide_eq_true e2] at e3
    unfold ordB at h
    rw [← e3] at h
    cases h
end Lw
end

section
set_option Elab.async false
set_option linter.all false
set_option maxRecDepth 100000
set_option maxHeartbeats 4000000
/-! The plain law of k10, part e: a string read by the program and by the law. -/
namespace Lw
open PySem PySem.Spec PyProof.Rows L2 DL
theorem s_eM1L {op : D → D → Option D} {f g : EM} {ρ : Rho} {s : List D} : eM1L op f g ρ s = (f ρ s).bind fun x => if isLst x.1 then (g ρ x.2).bind fun y => ofO (op x.1 y.1) y.2 else .un := rfl
theorem s_gRaiseX {ms : List Nat} {C f : Str} {h : EM} {ρ : List L} {s : List D} : gRaiseX ms C f h ρ s = exprS (h (vw (fz ms ρ)) s) fun d _ => .ex ⟨C, some (f, d)⟩ := rfl
theorem lc_run {f : WM} {vs : List Nat} {t : RtM} {c : TM} {e : EM} {ρ : Rho} {s : List D} : eLc f vs t c e ρ s = (f ρ s).bind fun z => if small z.1.length then (lcF t c e z.1 (wpR ρ vs) z.2).bind fun y => .ok (.list y.1, y.2) else .un := rfl
theorem s_isLst {x : List D} : isLst (.list x) = true := rfl
def invT (n : Int) : Exn := ⟨"InvalidText", some ("line", .int n)⟩
section
variable (ls : List Ln) (x0 x1 x2 x3 x4 : Option D)
theorem sel_rows : lcF rtWF (tE (eOp eqD (eVar 5) (eC (.str "line")))) (eVar 6) (ls.map lnD) [x0, x1, x2, x3, x4, none, none] [] = .ok ((ls.filter isRow).map valD, []) :=
  lcF_sel (enc := lnD) (p := isRow) (g := valD) fun l _ => ⟨_, by rw [lnD_eq]; exact rt_pair _ _ _, by
    rw [set2]
    cases l with
    | row r => simp [tagS, isRow, eq_ll]
    | mark q => simp [tagS, isRow, eq_nl], by rw [set2]; simp⟩
theorem sel_marks : lcF rtWF (tE (eOp eqD (eVar 5) (eC (.str "notch")))) (eVar 6) (ls.map lnD) [x0, x1, x2, x3, x4, none, none] [] = .ok ((ls.filter fun l => !isRow l).map valD, []) :=
  lcF_sel (enc := lnD) (p := fun l => !isRow l) (g := valD) fun l _ => ⟨_, by rw [lnD_eq]; exact rt_pair _ _ _, by
    rw [set2]
    cases l with
    | row r => simp [tagS, isRow, eq_ln]
    | mark q => simp [tagS, isRow, eq_nn], by rw [set2]; simp⟩
theorem sel_tags (ls : List Ln) : lcF rtWF tYesD (eVar 5) (ls.map lnD) [x0, x1, x2, x3, x4, none, none] [] = .ok ((ls.map tagS).map .str, []) := by
  have h := lcF_sel (t := rtWF) (c := tYesD) (e := eVar 5) (ρ := [x0, x1, x2, x3, x4, none, none]) (s := []) (enc := lnD) (p := fun _ => true) (g := fun l => PyData.str (tagS l)) (xs := ls) fun l _ => ⟨_, by rw [lnD_eq]; exact rt_pair _ _ _, rfl, by rw [set2]; simp⟩
  rw [h, List.filter_eq_self.mpr fun _ _ => rfl, List.map_map]
  rfl
end
theorem cut_rows (W : List D) {k : Nat} (h : k ≤ W.length) : slD (.list W) none (some (k : Int)) = some (.list (W.take k)) := by
  show some (PyData.list (DL.cutD W none (some ((k : Nat) : Int)))) = _
  unfold DL.cutD
  rw [HT.sIx_nat, HT.sIx_none, Nat.min_eq_left h, List.drop_zero, Nat.sub_zero]
theorem encA_gd {c : Act} (hc : VA c) : Gd 1000 1 (encA c) := by
  cases c with
  | none => exact .non
  | some x =>
    obtain ⟨s, k⟩ := x
    obtain ⟨h1, h2, h3⟩ := hc s k rfl
    refine .tup (by simp) fun d hd => ?_
    rcases List.mem_cons.mp hd with rfl | hd
    · exact .int (by omega)
    · rcases List.mem_cons.mp hd with rfl | hd
      · exact .int (by omega)
      · cases hd
theorem val_gd {l : Ln} (h : l.ok) : Gd 1000 2 (valD l) := by
  cases l with
  | row r =>
    refine .tup (by rw [List.length_map, h.1]; omega) fun d hd => ?_
    obtain ⟨c, hc, rfl⟩ := List.mem_map.mp hd
    exact encA_gd fun s k e => h.2 c hc s k e
  | mark q =>
    obtain ⟨b, k⟩ := q
    obtain ⟨h1, h2⟩ := h
    dsimp only at h1 h2
    refine .tup (by simp) fun d hd => ?_
    rcases List.mem_cons.mp hd with rfl | hd
    · cases b
      · exact .str (show (endS false).length ≤ 1000 + 1000 by decide +kernel)
      · exact .str (show (endS true).length ≤ 1000 + 1000 by decide +kernel)
    · rcases List.mem_cons.mp hd with rfl | hd
      · exact .int (by omega)
      · cases hd
theorem pD_gd {ls : List Ln} (h : ∀ l ∈ ls, l.ok) (hl : ls.length ≤ 1000) : Gd 1000 4 (pD ls) := by
  have one : ∀ p : Ln → Bool, Gd 1000 3 (.tuple ((ls.filter p).map valD)) := fun p => .tup (by rw [List.length_map]; have := List.length_filter_le p ls; omega) fun d hd => by
    obtain ⟨l, hm, rfl⟩ := List.mem_map.mp hd
    exact val_gd (h l (List.mem_filter.mp hm).1)
  refine .tup (by simp) fun d hd => ?_
  rcases List.mem_cons.mp hd with rfl | hd
  · exact one _
  · rcases List.mem_cons.mp hd with rfl | hd
    · exact one _
    · cases hd
/-! ### the program -/
theorem read_start {S : Str} (hS : S.length ≤ 900) (K : SM) : (gSeq (gIf [] (tNo (tE (eUn (isiD .str) (eVar 0)))) (gRaiseX [] "InvalidText" "line" (eC (.int 0))) gNext)
    (gSeq (gAsg [] (eLc (wSeq (eSplit (eVar 0) (eC (.str "\n")))) [4] (rtN 4) tYesD (eCall m_line_in (aCons (eVar 4) aNil))) (tgN 1)) K)) (R7 (.d (.str S)) .un .un .un .un .un .un) [] = K (R7 (.d (.str S)) (.d (.list (rowsOf S))) .un .un .un .un .un) [] := by
  rw [kstep (ρ' := R7 (.d (.str S)) .un .un .un .un .un .un) (s' := []) (by simp [R7, isiB])]
  rw [kstep (ρ' := R7 (.d (.str S)) (.d (.list (rowsOf S))) .un .un .un .un .un) (s' := []) (by
    rw [s_gAsg, s_fz0]
    show exprS (eLc _ _ _ _ _ [some (.str S), none, none, none, none, none, none] []) _ = _
    rw [lc_rows hS rfl fun t ht => by
      have := (lnOf_spec ht).2.1
      simp [wpR, this]]
    rfl)]
theorem read_bad {S : Str} (hS : S.length ≤ 900) (h : ((Txt.split S "\n").any fun t => (lnOf t).isNone) = true) : m_read_so [.str S] = .ex (invT (badAt S + 1)) := by
  unfold m_read_so
  rw [s_runF]
  unfold g_read_so
  show (gSeq _ _ (R7 (.d (.str S)) .un .un .un .un .un .un) []).out = _
  rw [read_start hS]
  have hn := none_rows S
  rw [h] at hn
  have hi := index_rows h
  rw [s_gSeq]
  have st : gIf [] (tE (eOp inD (eC .none) (eVar 1))) (gRaiseX [] "InvalidText" "line" (eOp addD (eM1L indexD (eVar 1) (eC .none)) (eC (.int 1)))) gNext (R7 (.d (.str S)) (.d (.list (rowsOf S))) .un .un .un .un .un) [] = .ex (invT (badAt S + 1)) := by
    simp [R7, hn, s_gRaiseX, s_eM1L, hi, s_isLst, invT]
  rw [st]
  rfl
theorem read_good {S : Str} (hS : S.length ≤ 900) (h : ((Txt.split S "\n").any fun t => (lnOf t).isNone) = false) {ls : List Ln} (hok : ∀ l ∈ ls, l.ok) (hrow : rowsOf S = ls.map lnD) :
    m_read_so [.str S] = if ordB ls && isPlanB (pD ls) then .ok (pD ls) else .ex (invT (ls.length + 1)) := by
  unfold m_read_so
  rw [s_runF]
  unfold g_read_so
  show (gSeq _ _ (R7 (.d (.str S)) .un .un .un .un .un .un) []).out = _
  rw [read_start hS]
  have hn := none_rows S
  rw [h] at hn
  have hlen := (rows_len hS).1
  rw [hrow] at hn hlen ⊢
  rw [List.length_map] at hlen
  have kl := k_le ls
  have ip := m_plan_any (B := 1000) (by decide) (pD_gd hok (by omega))
  generalize hA : (ls.filter isRow).map valD = A
  generalize hB : (ls.filter fun l => !isRow l).map valD = C
  have hP : pD ls = .tuple [.tuple A, .tuple C] := by unfold pD; rw [hA, hB]
  have lA : A.length = kOf ls := by rw [← hA, List.length_map]; rfl
  have sm : small (ls.map lnD).length = true := decide_eq_true (by rw [List.length_map]; omega)
  have tp : ∀ ds : List D, tupleD [.list ds] = some (.tuple ds) := fun _ => rfl
  have wp : ∀ x0 x1 x2 x3 : Option D, wpR [x0, x1, x2, x3, none, none, none] [5, 6] = [x0, x1, x2, x3, none, none, none] := fun _ _ _ _ => by simp [wpR]
  have eA : ∀ x2 x3 : Option D, eLc (wSeq (eVar 1)) [5, 6] rtWF (tE (eOp eqD (eVar 5) (eC (.str "line")))) (eVar 6) [some (.str S), some (.list (ls.map lnD)), x2, x3, none, none, none] [] = .ok (.list A, []) := fun x2 x3 => by
    unfold eLc
    rw [show wSeq (eVar 1) [some (.str S), some (.list (ls.map lnD)), x2, x3, none, none, none] [] = .ok (ls.map lnD, []) from rfl]
    simp only [bind_ok]
    rw [if_pos sm, wp, sel_rows, hA]
    rfl
  have eB : ∀ x2 x3 : Option D, eLc (wSeq (eVar 1)) [5, 6] rtWF (tE (eOp eqD (eVar 5) (eC (.str "notch")))) (eVar 6) [some (.str S), some (.list (ls.map lnD)), x2, x3, none, none, none] [] = .ok (.list C, []) := fun x2 x3 => by
    unfold eLc
    rw [show wSeq (eVar 1) [some (.str S), some (.list (ls.map lnD)), x2, x3, none, none, none] [] = .ok (ls.map lnD, []) from rfl]
    simp only [bind_ok]
    rw [if_pos sm, wp, sel_marks, hB]
    rfl
  have eC' : ∀ x3 : Option D, eLc (wSeq (eSl (eVar 1) oNone (oSome (eCB lenD (aCons (eVar 2) aNil))))) [5, 6] rtWF tYesD (eVar 5) [some (.str S), some (.list (ls.map lnD)), some (.tuple A), x3, none, none, none] [] = .ok (.list (((ls.take (kOf ls)).map tagS).map .str), []) := fun x3 => by
    have w : wSeq (eSl (eVar 1) oNone (oSome (eCB lenD (aCons (eVar 2) aNil)))) [some (.str S), some (.list (ls.map lnD)), some (.tuple A), x3, none, none, none] [] = .ok ((ls.take (kOf ls)).map lnD, []) := by
      show ((ofO (slD (.list (ls.map lnD)) none (some (A.length : Int))) []).bind fun z => ofO (itemsOf z.1) z.2) = _
      rw [lA, cut_rows _ (by rw [List.length_map]; exact kl), List.map_take]
      rfl
    unfold eLc
    rw [w]
    simp only [bind_ok]
    rw [if_pos (show small ((ls.take (kOf ls)).map lnD).length = true from decide_eq_true (by rw [List.length_map, List.length_take]; omega)), wp, sel_tags]
    rfl
  rw [kstep (ρ' := R7 (.d (.str S)) (.d (.list (ls.map lnD))) .un .un .un .un .un) (s' := []) (by simp [R7, hn])]
  rw [kstep (ρ' := R7 (.d (.str S)) (.d (.list (ls.map lnD))) (.d (.tuple A)) .un .un .un .un) (s' := []) (by
    rw [s_gAsg, s_fz0]
    show exprS (((eLc _ _ _ _ _ [some (.str S), some (.list (ls.map lnD)), none, none, none, none, none] []).bind fun z => (R.ok ([], z.2)).bind fun y => .ok (z.1 :: y.1, y.2)).bind fun z => ofO (tupleD z.1) z.2) _ = _
    rw [eA]
    simp only [bind_ok, tp, ofO_some, exprS_ok]
    rfl)]
  rw [kstep (ρ' := R7 (.d (.str S)) (.d (.list (ls.map lnD))) (.d (.tuple A)) (.d (pD ls)) .un .un .un) (s' := []) (by
    rw [s_gAsg, s_fz0, hP]
    show exprS ((((R.ok (PyData.tuple A, [])).bind fun z => (((((eLc _ _ _ _ _ [some (.str S), some (.list (ls.map lnD)), some (.tuple A), none, none, none, none] z.2).bind fun z => (R.ok ([], z.2)).bind fun y => .ok (z.1 :: y.1, y.2)).bind fun z => ofO (tupleD z.1) z.2)).bind fun z => (R.ok ([], z.2)).bind fun y => .ok (z.1 :: y.1, y.2)).bind fun y => .ok (z.1 :: y.1, y.2))).bind fun z => ofO (if small z.1.length then some (PyData.tuple z.1) else none) z.2) _ = _
    simp only [bind_ok]
    rw [eB]
    simp only [bind_ok, tp, ofO_some]
    rfl)]
  have ml := mul_one_str "line" (kOf ls) (by omega)
  have nw := ne_strs ((ls.take (kOf ls)).map tagS) (List.replicate (kOf ls) "line")
  have tr := tags_rows (ls.take (kOf ls))
  rw [List.length_take, Nat.min_eq_left kl] at tr
  rw [tr, show (ls.take (kOf ls)).all isRow = ordB ls from rfl] at nw
  have cond : tOrr (tE (eOp neD (eLc (wSeq (eSl (eVar 1) oNone (oSome (eCB lenD (aCons (eVar 2) aNil))))) [5, 6] (rtT 2 (rtsCons (rtN 5) (rtsCons (rtN 6) rtsNil))) tYesD (eVar 5)) (eOp mulLD (eLstS (aCons (eC (.str "line")) aNil)) (eCB lenD (aCons (eVar 2) aNil))))) (tNo (tE (eCall m_is_plan (aCons (eVar 3) aNil))))
      [some (.str S), some (.list (ls.map lnD)), some (.tuple A), some (pD ls), none, none, none] [] = .ok (!(ordB ls && isPlanB (pD ls)), []) := by
    show (((((eLc _ _ _ _ _ [some (.str S), some (.list (ls.map lnD)), some (.tuple A), some (pD ls), none, none, none] []).bind fun z => ((eOp mulLD (eLstS (aCons (eC (.str "line")) aNil)) (eCB lenD (aCons (eVar 2) aNil))) [some (.str S), some (.list (ls.map lnD)), some (.tuple A), some (pD ls), none, none, none] z.2).bind fun y => ofO (neD z.1 y.1) y.2).bind fun z => ofO (isB z.1) z.2).bind fun z => if z.1 = true then R.ok (true, z.2) else _)) = _
    rw [eC']
    simp only [bind_ok]
    have e2 : (eOp mulLD (eLstS (aCons (eC (.str "line")) aNil)) (eCB lenD (aCons (eVar 2) aNil))) [some (.str S), some (.list (ls.map lnD)), some (.tuple A), some (pD ls), none, none, none] [] = .ok (.list ((List.replicate (kOf ls) ("line" : Str)).map .str), []) := by
      simp [lA, ml]
    rw [e2]
    simp only [bind_ok, nw]
    cases hb : ordB ls with
    | false => simp
    | true => simp [ip]
  have len : eOp addD (eCB lenD (aCons (eVar 1) aNil)) (eC (.int 1)) [some (.str S), some (.list (ls.map lnD)), some (.tuple A), some (pD ls), none, none, none] [] = .ok (.int (ls.length + 1), []) := by simp
  rw [s_gSeq, s_gIf, s_fz0]
  show (Fl.seq (exprS (tOrr _ _ [some (.str S), some (.list (ls.map lnD)), some (.tuple A), some (pD ls), none, none, none] []) _) _).out = _
  rw [cond, exprS_ok]
  cases hb : ordB ls && isPlanB (pD ls) with
  | false =>
    simp only [Bool.not_false, if_true, s_gRaiseX, s_fz0]
    show (Fl.seq (exprS (eOp addD (eCB lenD (aCons (eVar 1) aNil)) (eC (.int 1)) [some (.str S), some (.list (ls.map lnD)), some (.tuple A), some (pD ls), none, none, none] []) _) _).out = _
    rw [len]
    rfl
  | true => simp [R7]
/-! ### the law -/
theorem due_start {S : Str} (hS : S.length ≤ 900) (K : SM) : (gSeq (gAsg [] (eLc (wSeq (eSplit (eVar 0) (eC (.str "\n")))) [4] (rtN 4) tYesD (eCall m__law_line_in (aCons (eVar 4) aNil))) (tgN 1)) K) (R7 (.d (.str S)) .un .un .un .un .un .un) [] = K (R7 (.d (.str S)) (.d (.list (rowsOf S))) .un .un .un .un .un) [] := by
  rw [kstep (ρ' := R7 (.d (.str S)) (.d (.list (rowsOf S))) .un .un .un .un .un) (s' := []) (by
    rw [s_gAsg, s_fz0]
    show exprS (eLc _ _ _ _ _ [some (.str S), none, none, none, none, none, none] []) _ = _
    rw [lc_rows hS rfl fun t ht => by
      have := (lnOf_spec ht).2.2
      simp [wpR, this]]
    rfl)]
theorem due_bad {S : Str} (hS : S.length ≤ 900) (h : ((Txt.split S "\n").any fun t => (lnOf t).isNone) = true) : m__law_due [.str S] = .ok (.int (badAt S + 1)) := by
  unfold m__law_due
  rw [s_runF]
  unfold g__law_due
  show (gSeq _ _ (R7 (.d (.str S)) .un .un .un .un .un .un) []).out = _
  rw [due_start hS]
  have hn := none_rows S
  rw [h] at hn
  have hi := index_rows h
  rw [s_gSeq]
  have st : gIf [] (tE (eOp inD (eC .none) (eVar 1))) (gRet [] (eOp addD (eM1L indexD (eVar 1) (eC .none)) (eC (.int 1)))) gNext (R7 (.d (.str S)) (.d (.list (rowsOf S))) .un .un .un .un .un) [] = .rt (.int (badAt S + 1)) [] := by
    simp [R7, hn, s_eM1L, hi, s_isLst]
  rw [st]
  rfl
theorem due_good {S : Str} (hS : S.length ≤ 900) (h : ((Txt.split S "\n").any fun t => (lnOf t).isNone) = false) {ls : List Ln} (hok : ∀ l ∈ ls, l.ok) (hrow : rowsOf S = ls.map lnD) :
    m__law_due [.str S] = .ok (if ordB ls && isPlanB (pD ls) then .none else .int (ls.length + 1)) := by
  unfold m__law_due
  rw [s_runF]
  unfold g__law_due
  show (gSeq _ _ (R7 (.d (.str S)) .un .un .un .un .un .un) []).out = _
  rw [due_start hS]
  have hn := none_rows S
  rw [h] at hn
  have hlen := (rows_len hS).1
  rw [hrow] at hn hlen ⊢
  rw [List.length_map] at hlen
  have kl := k_le ls
  have ip := m_lplan_any (B := 1000) (by decide) (pD_gd hok (by omega))
  generalize hA : (ls.filter isRow).map valD = A
  generalize hB : (ls.filter fun l => !isRow l).map valD = C
  have hP : pD ls = .tuple [.tuple A, .tuple C] := by unfold pD; rw [hA, hB]
  have sm : small (ls.map lnD).length = true := decide_eq_true (by rw [List.length_map]; omega)
  rw [kstep (ρ' := R7 (.d (.str S)) (.d (.list (ls.map lnD))) .un .un .un .un .un) (s' := []) (by simp [R7, hn])]
  have nam : eLc (wSeq (eVar 1)) [5] (rtN 5) tYesD (eOp ixD (eVar 5) (eC (.int 0))) [some (.str S), some (.list (ls.map lnD)), none, none, none, none, none] [] = .ok (.list ((ls.map tagS).map .str), []) := by
    have key := lcF_map (e := eOp ixD (eVar 5) (eC (.int 0))) (enc := lnD) (g := fun l => PyData.str (tagS l)) (i := 5) (ρ := [some (.str S), some (.list (ls.map lnD)), none, none, none, none, none]) (s := []) (xs := ls) fun l _ => by rw [lnD_eq]; rfl
    unfold eLc
    rw [show wSeq (eVar 1) [some (.str S), some (.list (ls.map lnD)), none, none, none, none, none] [] = .ok (ls.map lnD, []) from rfl]
    simp only [bind_ok]
    rw [if_pos sm, show wpR [some (.str S), some (.list (ls.map lnD)), none, none, none, none, none] [5] = [some (.str S), some (.list (ls.map lnD)), none, none, none, none, none] by simp [wpR], key, List.map_map]
    rfl
  rw [kstep (ρ' := R7 (.d (.str S)) (.d (.list (ls.map lnD))) (.d (.list ((ls.map tagS).map .str))) .un .un .un .un) (s' := []) (by
    rw [s_gAsg, s_fz0]
    show exprS (eLc _ _ _ _ _ [some (.str S), some (.list (ls.map lnD)), none, none, none, none, none] []) _ = _
    rw [nam]
    rfl)]
  have c1 := count_strs "line" (ls.map tagS)
  rw [count_row] at c1
  have c2 := count_strs "notch" (ls.map tagS)
  rw [count_mark] at c2
  have m1 := mul_one_str "line" (kOf ls) (by omega)
  have m2 := mul_one_str "notch" (ls.length - kOf ls) (by omega)
  have ad : addD (.list ((List.replicate (kOf ls) ("line" : Str)).map .str)) (.list ((List.replicate (ls.length - kOf ls) ("notch" : Str)).map .str)) = some (.list ((List.replicate (kOf ls) ("line" : Str) ++ List.replicate (ls.length - kOf ls) ("notch" : Str)).map .str)) := by
    rw [DL.add_lists (by simp; omega), List.map_append]
  have nn := ne_strs (ls.map tagS) (List.replicate (kOf ls) ("line" : Str) ++ List.replicate (ls.length - kOf ls) ("notch" : Str))
  rw [names_ord] at nn
  have cond : tE (eOp neD (eVar 2) (eOp addD (eOp mulLD (eLstS (aCons (eC (.str "line")) aNil)) (eM1L countD (eVar 2) (eC (.str "line")))) (eOp mulLD (eLstS (aCons (eC (.str "notch")) aNil)) (eM1L countD (eVar 2) (eC (.str "notch"))))))
      [some (.str S), some (.list (ls.map lnD)), some (.list ((ls.map tagS).map .str)), none, none, none, none] [] = .ok (!ordB ls, []) := by
    generalize (List.replicate (kOf ls) ("line" : Str) ++ List.replicate (ls.length - kOf ls) ("notch" : Str)).map PyData.str = T3 at ad nn
    generalize (ls.map tagS).map PyData.str = T at c1 c2 nn ⊢
    generalize (List.replicate (kOf ls) ("line" : Str)).map PyData.str = T1 at m1 ad ⊢
    generalize (List.replicate (ls.length - kOf ls) ("notch" : Str)).map PyData.str = T2 at m2 ad ⊢
    simp [s_eM1L, s_isLst, c1, c2, m1, m2, ad, nn]
  have len : ∀ x2 x3 : Option D, eOp addD (eCB lenD (aCons (eVar 1) aNil)) (eC (.int 1)) [some (.str S), some (.list (ls.map lnD)), x2, x3, none, none, none] [] = .ok (.int (ls.length + 1), []) := fun _ _ => by simp
  cases ho : ordB ls with
  | false =>
    rw [s_gSeq, s_gIf, s_fz0]
    show (Fl.seq (exprS (tE _ [some (.str S), some (.list (ls.map lnD)), some (.list ((ls.map tagS).map .str)), none, none, none, none] []) _) _).out = _
    rw [cond, ho, exprS_ok]
    simp only [Bool.not_false, if_true, Bool.false_and, Bool.false_eq_true, if_false, s_gRet, s_fz0]
    show (Fl.seq (exprS (eOp addD (eCB lenD (aCons (eVar 1) aNil)) (eC (.int 1)) [some (.str S), some (.list (ls.map lnD)), some (.list ((ls.map tagS).map .str)), none, none, none, none] []) _) _).out = _
    rw [len]
    rfl
  | true =>
    rw [kstep (ρ' := R7 (.d (.str S)) (.d (.list (ls.map lnD))) (.d (.list ((ls.map tagS).map .str))) .un .un .un .un) (s' := []) (by
      rw [s_gIf, s_fz0]
      show exprS (tE _ [some (.str S), some (.list (ls.map lnD)), some (.list ((ls.map tagS).map .str)), none, none, none, none] []) _ = _
      rw [cond, ho, exprS_ok]
      rfl)]
    generalize (ls.map tagS).map PyData.str = T
    have inner : ∀ (nm : Str) (p : Ln → Bool), (∀ l : Ln, eqD (.str (tagS l)) (.str nm) = some (.bool (p l))) → eLc (wSeq (eVar 1)) [5] (rtN 5) (tE (eOp eqD (eOp ixD (eVar 5) (eC (.int 0))) (eVar 6))) (eOp ixD (eVar 5) (eC (.int 1))) [some (.str S), some (.list (ls.map lnD)), some (.list T), none, none, none, some (.str nm)] [] = .ok (.list ((ls.filter p).map valD), []) := fun nm p hp => by
      have key := lcF_sel (t := rtN 5) (c := tE (eOp eqD (eOp ixD (eVar 5) (eC (.int 0))) (eVar 6))) (e := eOp ixD (eVar 5) (eC (.int 1))) (ρ := [some (.str S), some (.list (ls.map lnD)), some (.list T), none, none, none, some (.str nm)]) (s := []) (enc := lnD) (p := p) (g := valD) (xs := ls) fun l _ => ⟨_, rfl, by
        rw [lnD_eq]
        have := hp l
        simp [this], by rw [lnD_eq]; rfl⟩
      unfold eLc
      rw [show wSeq (eVar 1) [some (.str S), some (.list (ls.map lnD)), some (.list T), none, none, none, some (.str nm)] [] = .ok (ls.map lnD, []) from rfl]
      simp only [bind_ok]
      rw [if_pos sm, show wpR [some (.str S), some (.list (ls.map lnD)), some (.list T), none, none, none, some (.str nm)] [5] = [some (.str S), some (.list (ls.map lnD)), some (.list T), none, none, none, some (.str nm)] by simp [wpR], key]
      rfl
    have i1 := inner "line" isRow fun l => by
      cases l with
      | row r => exact eq_ll
      | mark q => exact eq_nl
    have i2 := inner "notch" (fun l => !isRow l) fun l => by
      cases l with
      | row r => exact eq_ln
      | mark q => exact eq_nn
    rw [hA] at i1
    rw [hB] at i2
    have tp : ∀ ds : List D, tupleD [.list ds] = some (.tuple ds) := fun _ => rfl
    have f1 : eCB tupleD (aCons (eLc (wSeq (eVar 1)) [5] (rtN 5) (tE (eOp eqD (eOp ixD (eVar 5) (eC (.int 0))) (eVar 6))) (eOp ixD (eVar 5) (eC (.int 1)))) aNil) [some (.str S), some (.list (ls.map lnD)), some (.list T), none, none, none, some (.str "line")] [] = .ok (.tuple A, []) := by
      show ((((eLc _ _ _ _ _ [some (.str S), some (.list (ls.map lnD)), some (.list T), none, none, none, some (.str "line")] []).bind fun z => (R.ok ([], z.2)).bind fun y => .ok (z.1 :: y.1, y.2)).bind fun z => ofO (tupleD z.1) z.2)) = _
      rw [i1]
      simp only [bind_ok, tp, ofO_some]
    have f2 : eCB tupleD (aCons (eLc (wSeq (eVar 1)) [5] (rtN 5) (tE (eOp eqD (eOp ixD (eVar 5) (eC (.int 0))) (eVar 6))) (eOp ixD (eVar 5) (eC (.int 1)))) aNil) [some (.str S), some (.list (ls.map lnD)), some (.list T), none, none, none, some (.str "notch")] [] = .ok (.tuple C, []) := by
      show ((((eLc _ _ _ _ _ [some (.str S), some (.list (ls.map lnD)), some (.list T), none, none, none, some (.str "notch")] []).bind fun z => (R.ok ([], z.2)).bind fun y => .ok (z.1 :: y.1, y.2)).bind fun z => ofO (tupleD z.1) z.2)) = _
      rw [i2]
      simp only [bind_ok, tp, ofO_some]
    have parts : eLc (wSeq (eTupS (aCons (eC (.str "line")) (aCons (eC (.str "notch")) aNil)))) [6] (rtN 6) tYesD (eCB tupleD (aCons (eLc (wSeq (eVar 1)) [5] (rtN 5) (tE (eOp eqD (eOp ixD (eVar 5) (eC (.int 0))) (eVar 6))) (eOp ixD (eVar 5) (eC (.int 1)))) aNil)) [some (.str S), some (.list (ls.map lnD)), some (.list T), none, none, none, none] [] = .ok (.list [.tuple A, .tuple C], []) := by
      rw [lc_run]
      rw [show wSeq (eTupS (aCons (eC (.str "line")) (aCons (eC (.str "notch")) aNil))) [some (.str S), some (.list (ls.map lnD)), some (.list T), none, none, none, none] [] = .ok ([.str "line", .str "notch"], []) from rfl]
      simp only [bind_ok]
      rw [if_pos (show small [PyData.str "line", .str "notch"].length = true from rfl), show wpR [some (.str S), some (.list (ls.map lnD)), some (.list T), none, none, none, none] [6] = [some (.str S), some (.list (ls.map lnD)), some (.list T), none, none, none, none] by simp [wpR]]
      have key := lcF_map (e := eCB tupleD (aCons (eLc (wSeq (eVar 1)) [5] (rtN 5) (tE (eOp eqD (eOp ixD (eVar 5) (eC (.int 0))) (eVar 6))) (eOp ixD (eVar 5) (eC (.int 1)))) aNil)) (enc := PyData.str) (g := fun nm : Str => if nm = "line" then PyData.tuple A else .tuple C) (i := 6) (ρ := [some (.str S), some (.list (ls.map lnD)), some (.list T), none, none, none, none]) (s := []) (xs := ["line", "notch"]) fun nm hm => by
        rcases List.mem_cons.mp hm with rfl | hm
        · rw [if_pos rfl]; exact f1
        · rcases List.mem_cons.mp hm with rfl | hm
          · rw [if_neg (by decide +kernel)]; exact f2
          · cases hm
      rw [show [PyData.str "line", .str "notch"] = (["line", "notch"] : List Str).map PyData.str from rfl, key]
      show R.ok (PyData.list [if ("line" : Str) = "line" then PyData.tuple A else .tuple C, if ("notch" : Str) = "line" then PyData.tuple A else .tuple C], []) = _
      rw [if_pos rfl, if_neg (by decide +kernel)]
    rw [kstep (ρ' := R7 (.d (.str S)) (.d (.list (ls.map lnD))) (.d (.list T)) (.d (.list [.tuple A, .tuple C])) .un .un .un) (s' := []) (by
      rw [s_gAsg, s_fz0]
      show exprS (eLc _ _ _ _ _ [some (.str S), some (.list (ls.map lnD)), some (.list T), none, none, none, none] []) _ = _
      rw [parts]
      rfl)]
    rw [hP] at ip
    rw [hP, Bool.true_and]
    generalize isPlanB (.tuple [.tuple A, .tuple C]) = b at ip ⊢
    cases b <;> simp [R7, tp, ip]
end Lw
end

section
set_option Elab.async false
set_option linter.all false
set_option maxRecDepth 100000
set_option maxHeartbeats 4000000
/-! The plain law of k10, part f: what is read; lengths. -/
namespace Lw
open PySem PySem.Spec PyProof.Rows L2 DL
def rsOf : List Ln → List (List Act)
  | [] => []
  | .row r :: ls => r :: rsOf ls
  | .mark _ :: ls => rsOf ls
def qsOf : List Ln → List (Bool × Int)
  | [] => []
  | .row _ :: ls => qsOf ls
  | .mark q :: ls => q :: qsOf ls
theorem rs_eq : ∀ ls : List Ln, (ls.filter isRow).map valD = (rsOf ls).map encL ∧ (ls.filter isRow).map lnS = (rsOf ls).map lineS
  | [] => ⟨rfl, rfl⟩
  | .row r :: ls => by
    obtain ⟨h1, h2⟩ := rs_eq ls
    rw [List.filter_cons_of_pos (by rfl), List.map_cons, List.map_cons, h1, h2]
    exact ⟨rfl, rfl⟩
  | .mark q :: ls => by rw [List.filter_cons_of_neg (by simp [isRow])]; exact rs_eq ls
theorem qs_eq : ∀ ls : List Ln, (ls.filter fun l => !isRow l).map valD = (qsOf ls).map encN ∧ (ls.filter fun l => !isRow l).map lnS = (qsOf ls).map notS
  | [] => ⟨rfl, rfl⟩
  | .row r :: ls => by rw [List.filter_cons_of_neg (by simp [isRow])]; exact qs_eq ls
  | .mark q :: ls => by
    obtain ⟨h1, h2⟩ := qs_eq ls
    rw [List.filter_cons_of_pos (by rfl), List.map_cons, List.map_cons, h1, h2]
    exact ⟨rfl, rfl⟩
theorem rs_ok : ∀ {ls : List Ln}, (∀ l ∈ ls, l.ok) → ∀ r ∈ rsOf ls, RowOk r
  | [], _, _, h => by cases h
  | .row r :: ls, h, x, hx => by
    rcases List.mem_cons.mp hx with rfl | hx
    · exact h _ List.mem_cons_self
    · exact rs_ok (fun l hl => h l (List.mem_cons_of_mem _ hl)) x hx
  | .mark q :: ls, h, x, hx => rs_ok (fun l hl => h l (List.mem_cons_of_mem _ hl)) x hx
theorem qs_ok : ∀ {ls : List Ln}, (∀ l ∈ ls, l.ok) → ∀ q ∈ qsOf ls, 1 ≤ q.2 ∧ q.2 ≤ 4
  | [], _, _, h => by cases h
  | .row r :: ls, h, x, hx => qs_ok (fun l hl => h l (List.mem_cons_of_mem _ hl)) x hx
  | .mark q :: ls, h, x, hx => by
    rcases List.mem_cons.mp hx with rfl | hx
    · exact h _ List.mem_cons_self
    · exact qs_ok (fun l hl => h l (List.mem_cons_of_mem _ hl)) x hx
def planOf (ls : List Ln) : Plan := ⟨rsOf ls, qsOf ls⟩
theorem plan_enc (ls : List Ln) : (planOf ls).enc = pD ls := by
  unfold Plan.enc pD planOf
  rw [(rs_eq ls).1, (qs_eq ls).1]
theorem plan_ok {ls : List Ln} (hok : ∀ l ∈ ls, l.ok) (h : isPlanB (pD ls) = true) : (planOf ls).Ok := by
  rw [← plan_enc] at h
  obtain ⟨h1, h⟩ := He.ba (show ((decide (1 ≤ (((rsOf ls).map encL).length : Int)) && decide ((((rsOf ls).map encL).length : Int) ≤ 4)) && (rowsB ((rsOf ls).map encL) && (decide (((qsOf ls).map encN).length ≤ 2) && (((qsOf ls).map encN).all isNotB && srtB ((qsOf ls).map encN))))) = true from h)
  obtain ⟨h2, h3⟩ := He.ba h1
  obtain ⟨h4, h⟩ := He.ba h
  obtain ⟨h5, h⟩ := He.ba h
  obtain ⟨_, h6⟩ := He.ba h
  have a1 := of_decide_eq_true h2
  have a2 := of_decide_eq_true h3
  have a3 := of_decide_eq_true h5
  rw [List.length_map] at a1 a2 a3
  refine ⟨by show 1 ≤ (rsOf ls).length; omega, by show (rsOf ls).length ≤ 4; omega, fun r hr => (rs_ok hok r hr).1, fun r hr s k hc => ?_, a3, fun q hq => qs_ok hok q hq, fun a b e => ?_⟩
  · obtain ⟨b1, b2, _⟩ := (rs_ok hok r hr).2 _ hc s k rfl
    refine ⟨b1, b2, ?_⟩
    have hb := List.all_eq_true.mp h4 (encL r) (List.mem_map.mpr ⟨r, hr, rfl⟩)
    obtain ⟨_, hb⟩ := He.ba (show (decide ((r.map encA).length = 4) && (r.map encA).all (isActB (((rsOf ls).map encL).length : Int))) = true from hb)
    have hc2 := List.all_eq_true.mp hb (encA (some (s, k))) (List.mem_map.mpr ⟨_, hc, rfl⟩)
    obtain ⟨_, hc3⟩ := He.ba (show (inI (-2) 2 (.int s) && inI 0 ((((rsOf ls).map encL).length : Int) - 1) (.int k)) = true from hc2)
    obtain ⟨_, hc4⟩ := He.ba (show (decide ((0 : Int) ≤ (k : Int)) && decide ((k : Int) ≤ (((rsOf ls).map encL).length : Int) - 1)) = true from hc3)
    have := of_decide_eq_true hc4
    rw [List.length_map] at this
    show k < (rsOf ls).length
    omega
  · have e' : qsOf ls = [a, b] := e
    rw [e'] at h6
    exact h6
theorem plan_text {S : Str} {ls : List Ln} (hT : Txt.split S "\n" = ls.map lnS) (ho : ordB ls = true) : textS (planOf ls) = S := by
  have e := ord_split ho
  have h : rowsS (planOf ls) = Txt.split S "\n" := by
    rw [hT]
    conv => rhs; rw [e]
    rw [List.map_append, (rs_eq ls).2, (qs_eq ls).2]
    rfl
  unfold textS
  rw [h, split_back]
/-- a string, by both -/
theorem due_read {S : Str} (hS : S.length ≤ 900) : (∃ n : Nat, n ≤ 1000 ∧ m__law_due [.str S] = .ok (.int n) ∧ m_read_plan [.str S] = .ex (invT n)) ∨ ∃ P : Plan, P.Ok ∧ m__law_due [.str S] = .ok .none ∧ m_read_plan [.str S] = .ok P.enc ∧ textS P = S := by
  have rp : m_read_plan [.str S] = m_read_so [.str S] := by
    unfold m_read_plan
    rw [s_runF]
    unfold g_read_plan
    show (gRet [] _ [.d (.str S)] []).out = _
    rw [s_gRet, s_fz0]
    show (exprS ((m_read_so [.str S]).bind fun d => .ok (d, [])) _).out = _
    cases m_read_so [.str S] <;> rfl
  rw [rp]
  cases h : (Txt.split S "\n").any fun t => (lnOf t).isNone with
  | true =>
    refine .inl ⟨badAt S + 1, ?_, by rw [due_bad hS h]; rfl, by rw [read_bad hS h]; rfl⟩
    have h1 := (rows_len hS).1
    have : badAt S ≤ (rowsOf S).length := by
      unfold badAt
      have := List.idxOf_le_length (a := true) (l := (rowsOf S).map fun y => PyData.eqv y .none)
      rwa [List.length_map] at this
    omega
  | false =>
    obtain ⟨ls, hok, hT, hrow, hlen⟩ := all_lines hS h
    have d := due_good hS h hok hrow
    have r := read_good hS h hok hrow
    cases hb : ordB ls && isPlanB (pD ls) with
    | false =>
      rw [hb] at d r
      exact .inl ⟨ls.length + 1, by have := (rows_len hS).1; omega, by rw [d]; rfl, by rw [r]; rfl⟩
    | true =>
      rw [hb] at d r
      obtain ⟨b1, b2⟩ := He.ba hb
      exact .inr ⟨planOf ls, plan_ok hok b2, d, by rw [r, plan_enc]; rfl, plan_text hT b1⟩
/-! ### lengths -/
def wt (xs : List Str) : Nat := (xs.map (·.length)).sum + xs.length
theorem wt_app (xs ys : List Str) : wt (xs ++ ys) = wt xs + wt ys := by
  unfold wt
  rw [List.map_append, List.sum_append, List.length_append]
  omega
theorem wt_cut (xs : List Str) (k : Nat) : wt (xs.take k) + wt (xs.drop k) = wt xs := by rw [← wt_app, List.take_append_drop]
theorem wt_rev (xs : List Str) : wt xs.reverse = wt xs := by
  unfold wt
  rw [List.length_reverse, List.map_reverse, List.sum_reverse]
theorem wt_split (S : Str) : wt (Txt.split S "\n") = S.length + 1 := (fitN S).sum
theorem wt_join (xs : List Str) : (Txt.join "\n" xs).length ≤ wt xs := by
  have := join_len "\n" xs
  rw [l1N, Nat.mul_one] at this
  exact this
theorem not_len {q : Bool × Int} (hq : 1 ≤ q.2 ∧ q.2 ≤ 4) : (notS q).length ≤ 12 := nots (fun q => (notS q).length ≤ 12) (by decide +kernel) hq
theorem line_len24 {r : List Act} (h : RowOk r) : (lineS r).length ≤ 25 := by
  have e := line_join (r := r) (fun e => by have := h.1; rw [e] at this; cases this)
  have j := join_len " " (("line" : Str) :: r.map wordA)
  rw [← e, List.map_cons, List.sum_cons, l1B, Nat.mul_one, List.length_cons, List.length_map, h.1] at j
  have s := sum_le (xs := (r.map wordA).map (·.length)) (b := 4) fun x hx => by
    obtain ⟨w, hw, rfl⟩ := List.mem_map.mp hx
    obtain ⟨c, hc, rfl⟩ := List.mem_map.mp hw
    exact word_len fun s k e => h.2 c hc s k e
  rw [List.length_map, List.length_map, h.1] at s
  have : ("line" : Str).length = 4 := by decide +kernel
  omega
theorem text_short {P : Plan} (ok : P.Ok) : (textS P).length ≤ 160 := by
  refine Nat.le_trans (wt_join _) ?_
  unfold rowsS
  rw [wt_app]
  unfold wt
  have s1 := sum_le (xs := (P.lines.map lineS).map (·.length)) (b := 25) fun x hx => by
    obtain ⟨w, hw, rfl⟩ := List.mem_map.mp hx
    obtain ⟨r, hr, rfl⟩ := List.mem_map.mp hw
    exact line_len24 (rowOk ok hr)
  have s2 := sum_le (xs := (P.notches.map notS).map (·.length)) (b := 12) fun x hx => by
    obtain ⟨w, hw, rfl⟩ := List.mem_map.mp hx
    obtain ⟨q, hq, rfl⟩ := List.mem_map.mp hw
    exact not_len (ok.far q hq)
  rw [List.length_map, List.length_map] at s1 s2
  rw [List.length_map, List.length_map]
  have := ok.most
  have := ok.few
  omega
end Lw
end

section
set_option Elab.async false
set_option linter.all false
set_option maxRecDepth 100000
set_option maxHeartbeats 4000000
/-! The plain law of k10, part g: a string bent. -/
namespace Lw
open PySem PySem.Spec PyProof.Rows L2 DL
abbrev R8 (x0 x1 x2 x3 x4 x5 x6 x7 : L) : List L := [x0, x1, x2, x3, x4, x5, x6, x7]
def someS : List Str := ["", "line - - -", "line - - - -", "line 1:0 1:1 1:2 1:3", "line 1:4 - - -", "line +1:0 - - -", "line 3:0 - - -", "notch head 1", "notch tail 5", "notch head 01", "Notch head 1", "notch  tail 1", "notch tail 4"]
theorem some_len : ∀ x ∈ someS, x.length ≤ 20 := by decide +kernel
def signS : List Str := [" ", "-", "1", ":", "\n", "2"]
theorem sign_len : ∀ x ∈ signS, x.length ≤ 20 := by decide +kernel
theorem any_str (a : Addr) {xs : List Str} (h0 : xs ≠ []) (h1 : xs.length ≤ 1000) {s : List D} (hs : St s) : ∃ (x : Str) (s' : List D), m__law_any a [opq a, .list (xs.map .str)] s = .ok (.str x, s') ∧ x ∈ xs ∧ St s' := by
  obtain ⟨x, s', e, hx, hs'⟩ := m_any_ok a (xs := xs.map PyData.str) (by simpa using h0) (by simpa using h1) hs
  obtain ⟨y, hy, rfl⟩ := List.mem_map.mp hx
  exact ⟨y, s', e, hy, hs'⟩
theorem sl_run {f : EM} {lo hi : OM} {ρ : Rho} {s : List D} : eSl f lo hi ρ s = (f ρ s).bind fun z => (lo ρ z.2).bind fun x => (hi ρ x.2).bind fun y => ofO (slD z.1 x.1 y.1) y.2 := rfl
theorem cut_to (W : List Str) {k : Nat} (h : k ≤ W.length) : slD (.list (W.map .str)) none (some (k : Int)) = some (.list ((W.take k).map .str)) := by
  rw [cut_rows _ (by rw [List.length_map]; exact h), List.map_take]
theorem cut_from (W : List Str) (k : Nat) : slD (.list (W.map .str)) (some (k : Int)) none = some (.list ((W.drop k).map .str)) := by
  show some (PyData.list (DL.cutD (W.map .str) (some ((k : Nat) : Int)) none)) = _
  unfold DL.cutD
  rw [HT.sIx_nat, HT.sIx_none, List.take_of_length_le (by rw [List.length_drop]; omega), List.length_map, List.map_drop]
  by_cases h : k ≤ W.length
  · rw [Nat.min_eq_left h]
  · rw [Nat.min_eq_right (by omega), List.drop_of_length_le (by rw [List.length_map]; omega), List.drop_of_length_le (by rw [List.length_map]; omega)]
theorem cut_mid (W : List Str) (k : Nat) (h : k ≤ W.length) : slD (.list (W.map .str)) (some (k : Int)) (some ((k + 2 : Nat) : Int)) = some (.list (((W.drop k).take 2).map .str)) := by
  show some (PyData.list (DL.cutD (W.map .str) (some ((k : Nat) : Int)) (some ((k + 2 : Nat) : Int)))) = _
  unfold DL.cutD
  rw [HT.sIx_nat, HT.sIx_nat, List.length_map, Nat.min_eq_left h, ← List.map_drop, ← List.map_take]
  congr 3
  by_cases h2 : k + 2 ≤ W.length
  · rw [Nat.min_eq_left h2, show k + 2 - k = 2 by omega]
  · rw [Nat.min_eq_right (by omega), List.take_of_length_le (by rw [List.length_drop]; omega), List.take_of_length_le (by rw [List.length_drop]; omega)]
theorem cat_strs {xs ys : List Str} (h : xs.length + ys.length ≤ 1000000) : addD (.list (xs.map .str)) (.list (ys.map .str)) = some (.list ((xs ++ ys).map .str)) := by
  rw [DL.add_lists (by simpa using h), List.map_append]
theorem glue {xs : List Str} (h : wt xs ≤ 1000000) : joinD (.str "\n") (.list (xs.map .str)) = some (.str (Txt.join "\n" xs)) := join_some (by
  unfold wt at h
  rw [l1N, Nat.mul_one]
  exact h)
theorem len_wt (xs : List Str) : xs.length ≤ wt xs := by unfold wt; omega
theorem cut_str {z : Str} (h : z.length ≤ 1000000) (lo hi : Option Int) : slD (.str z) lo hi = some (.str (Txt.slice z lo hi)) := by
  show (if small z.length then some (PyData.str (Txt.slice z lo hi)) else none) = _
  rw [show small z.length = true from decide_eq_true h]
  rfl
theorem step_way {w j : Int} {x0 x1 x2 x3 x5 x6 x7 : L} {A K : SM} {s : List D} : (gSeq (gIf [] (tE (eOp eqD (eVar 4) (eC (.int j)))) A gNext) K) (R8 x0 x1 x2 x3 (.d (.int w)) x5 x6 x7) s = if w = j then (gSeq A K) (R8 x0 x1 x2 x3 (.d (.int w)) x5 x6 x7) s else K (R8 x0 x1 x2 x3 (.d (.int w)) x5 x6 x7) s := by
  rw [s_gSeq, s_gIf]
  have t : tE (eOp eqD (eVar 4) (eC (.int j))) (vw (fz [] (R8 x0 x1 x2 x3 (.d (.int w)) x5 x6 x7))) s = .ok (decide (w = j), s) := by
    have v : eVar 4 (vw (fz [] (R8 x0 x1 x2 x3 (.d (.int w)) x5 x6 x7))) s = .ok (.int w, s) := rfl
    show ((((eVar 4 (vw (fz [] (R8 x0 x1 x2 x3 (.d (.int w)) x5 x6 x7))) s).bind fun x => (R.ok (PyData.int j, x.2)).bind fun y => ofO (eqD x.1 y.1) y.2)).bind fun z => ofO (isB z.1) z.2) = _
    rw [v]
    simp only [bind_ok, s_eqI, ofO_some]
    rfl
  rw [t, exprS_ok]
  by_cases h : w = j
  · rw [if_pos h, decide_eq_true h]; rfl
  · rw [if_neg h, decide_eq_false h]; rfl
theorem str_len_app (x y : Str) : (x ++ y).length = x.length + y.length := by rw [TL.len_tl, TL.tl_append, List.length_append, ← TL.len_tl, ← TL.len_tl]
theorem ret_seq {e : EM} {K : SM} {ρ : List L} {s s' : List D} {d : D} (h : e (vw ρ) s = .ok (d, s')) : (gSeq (gRet [] e) K) ρ s = .rt d s' := by
  rw [s_gSeq, s_gRet, s_fz0, h]
  rfl
theorem m_bent_ok (a : Addr) {S : Str} (hS : S.length ≤ 400) {s : List D} (hs : St s) : ∃ (S' : Str) (s' : List D), m__law_bent a [opq a, .str S] s = .ok (.str S', s') ∧ S'.length ≤ 2 * S.length + 40 ∧ St s' := by
  obtain ⟨T, hT⟩ : ∃ T, T = Txt.split S "\n" := ⟨_, rfl⟩
  have wT : wt T = S.length + 1 := by rw [hT]; exact wt_split S
  have oT : 1 ≤ T.length := by rw [hT]; exact (fitN S).one
  have lT : T.length ≤ 401 := by have := len_wt T; omega
  have sp := split_any (x := S) (y := "\n") l1N (by omega)
  rw [← hT] at sp
  obtain ⟨p, s1, e1, p0, p1, hs1⟩ := m_wind_ok a (many := (S.length : Int) + 1) (by omega) (by omega) hs
  obtain ⟨w, s2, e2, w0, w1, hs2⟩ := m_wind_ok a (many := 7) (by omega) (by omega) hs1
  obtain ⟨q, s3, e3, q0, q1, hs3⟩ := m_wind_ok a (many := (T.length : Int)) (by omega) (by omega) hs2
  obtain ⟨k, rfl⟩ : ∃ k : Nat, q = k := ⟨q.toNat, by omega⟩
  obtain ⟨n, rfl⟩ : ∃ n : Nat, p = n := ⟨p.toNat, by omega⟩
  have kT : k ≤ T.length := by omega
  have big : ∀ xs : List Str, wt xs ≤ 3 * S.length + 100 → wt xs ≤ 1000000 := fun xs h => by omega
  unfold m__law_bent
  rw [s_runS]
  have key : ∃ (S' : Str) (s' : List D), g__law_bent a (R8 (.d (opq a)) (.d (.str S)) .un .un .un .un .un .un) s = .rt (.str S') s' ∧ S'.length ≤ 2 * S.length + 40 ∧ St s' := by
    unfold g__law_bent
    have lS : lenD [.str S] = some (.int S.length) := by
      show (if small S.length then some (PyData.int S.length) else none) = _
      rw [show small S.length = true from decide_eq_true (by omega)]
      rfl
    rw [kstep (ρ' := R8 (.d (opq a)) (.d (.str S)) (.d (.list (T.map .str))) (.d (.int n)) .un .un .un .un) (s' := s1) (by simp [R8, sp, lS, e1])]
    have lL : (T.map PyData.str).length = T.length := List.length_map _
    generalize hL : T.map PyData.str = TL at lL
    rw [kstep (ρ' := R8 (.d (opq a)) (.d (.str S)) (.d (.list TL)) (.d (.int n)) (.d (.int w)) (.d (.int k)) .un .un) (s' := s3) (by simp [R8, e2, lL, e3])]
    rw [kstep (ρ' := R8 (.d (opq a)) (.d (.str S)) (.d (.list TL)) (.d (.int n)) (.d (.int w)) (.d (.int k)) (.d (.list ((someS.take 5).map .str))) .un) (s' := s3) (by rfl)]
    rw [kstep (ρ' := R8 (.d (opq a)) (.d (.str S)) (.d (.list TL)) (.d (.int n)) (.d (.int w)) (.d (.int k)) (.d (.list ((someS.take 8).map .str))) .un) (s' := s3) (by rfl)]
    rw [kstep (ρ' := R8 (.d (opq a)) (.d (.str S)) (.d (.list TL)) (.d (.int n)) (.d (.int w)) (.d (.int k)) (.d (.list (someS.map .str))) .un) (s' := s3) (by rfl)]
    obtain ⟨ρ, hρ⟩ : ∃ ρ : L → List L, ρ = fun x => R8 (.d (opq a)) (.d (.str S)) (.d (.list TL)) (.d (.int n)) (.d (.int w)) (.d (.int k)) (.d (.list (someS.map .str))) x := ⟨_, rfl⟩
    have v0 : ∀ (x : L) (z : List D), eVar 0 (vw (ρ x)) z = .ok (opq a, z) := fun x z => by rw [hρ]; rfl
    have v1 : ∀ (x : L) (z : List D), eVar 1 (vw (ρ x)) z = .ok (.str S, z) := fun x z => by rw [hρ]; rfl
    have v2 : ∀ (x : L) (z : List D), eVar 2 (vw (ρ x)) z = .ok (.list (T.map .str), z) := fun x z => by rw [hρ, hL]; rfl
    have v3 : ∀ (x : L) (z : List D), eVar 3 (vw (ρ x)) z = .ok (.int n, z) := fun x z => by rw [hρ]; rfl
    have v5 : ∀ (x : L) (z : List D), eVar 5 (vw (ρ x)) z = .ok (.int k, z) := fun x z => by rw [hρ]; rfl
    have v6 : ∀ (x : L) (z : List D), eVar 6 (vw (ρ x)) z = .ok (.list (someS.map .str), z) := fun x z => by rw [hρ]; rfl
    have to5 : ∀ (x : L) (z : List D), eSl (eVar 2) oNone (oSome (eVar 5)) (vw (ρ x)) z = .ok (.list ((T.take k).map .str), z) := fun x z => by
      rw [sl_run, v2]
      simp only [bind_ok, oNone, oSome, v5, isI, ofO_some]
      rw [cut_to T kT]
      rfl
    have fr5 : ∀ (x : L) (z : List D), eSl (eVar 2) (oSome (eVar 5)) oNone (vw (ρ x)) z = .ok (.list ((T.drop k).map .str), z) := fun x z => by
      rw [sl_run, v2]
      simp only [bind_ok, oNone, oSome, v5, isI, ofO_some]
      rw [cut_from T k]
      rfl
    have fr51 : ∀ (j : Int) (j' : Nat), j = j' → ∀ (x : L) (z : List D), eSl (eVar 2) (oSome (eOp addD (eVar 5) (eC (.int j)))) oNone (vw (ρ x)) z = .ok (.list ((T.drop (k + j')).map .str), z) := fun j j' hj x z => by
      subst hj
      have ad : addD (.int k) (.int j') = some (.int ((k + j' : Nat) : Int)) := by show some (PyData.int ((k : Int) + j')) = _; rw [Int.natCast_add]
      have eo : eOp addD (eVar 5) (eC (.int j')) (vw (ρ x)) z = .ok (.int ((k + j' : Nat) : Int), z) := by
        show ((eVar 5 (vw (ρ x)) z).bind fun x_ => (R.ok (PyData.int j', x_.2)).bind fun y => ofO (addD x_.1 y.1) y.2) = _
        rw [v5]
        simp only [bind_ok, ad, ofO_some]
      rw [sl_run, v2]
      simp only [bind_ok, oNone, oSome]
      rw [eo]
      simp only [bind_ok, isI, ofO_some]
      rw [cut_from T]
      rfl
    have cat : ∀ {x : L} {f g : EM} {z z' z'' : List D} {xs ys : List Str}, f (vw (ρ x)) z = .ok (.list (xs.map .str), z') → g (vw (ρ x)) z' = .ok (.list (ys.map .str), z'') → wt xs + wt ys ≤ 1000000 → eOp addD f g (vw (ρ x)) z = .ok (.list ((xs ++ ys).map .str), z'') := fun {x f g z z' z'' xs ys} h1 h2 h3 => by
      show ((f (vw (ρ x)) z).bind fun x_ => (g (vw (ρ x)) x_.2).bind fun y => ofO (addD x_.1 y.1) y.2) = _
      rw [h1]
      simp only [bind_ok]
      rw [h2]
      simp only [bind_ok]
      rw [cat_strs (by have := len_wt xs; have := len_wt ys; omega)]
      rfl
    have glu : ∀ {x : L} {f : EM} {z z' : List D} {xs : List Str}, f (vw (ρ x)) z = .ok (.list (xs.map .str), z') → wt xs ≤ 1000000 → eJoin (eC (.str "\n")) f (vw (ρ x)) z = .ok (.str (Txt.join "\n" xs), z') := fun {x f z z' xs} h1 h2 => by
      rw [s_eJoin]
      show ((R.ok (PyData.str "\n", z)).bind fun x_ => if isStr x_.1 then (f (vw (ρ x)) x_.2).bind fun y => ofO (joinD x_.1 y.1) y.2 else .un) = _
      simp only [bind_ok, s_isStr, if_true]
      rw [h1]
      simp only [bind_ok]
      rw [glue h2]
      rfl
    have wk := wt_cut T k
    have wk1 := wt_cut T (k + 1)
    have wk2 := wt_cut (T.drop k) 2
    rw [List.drop_drop] at wk2
    have hρ' : ρ .un = R8 (.d (opq a)) (.d (.str S)) (.d (.list TL)) (.d (.int n)) (.d (.int w)) (.d (.int k)) (.d (.list (someS.map .str))) .un := by rw [hρ]
    have g0 : (vw (ρ .un))[0]? = some (some (opq a)) := by rw [hρ]; rfl
    have g1 : (vw (ρ .un))[1]? = some (some (.str S)) := by rw [hρ]; rfl
    have g3 : (vw (ρ .un))[3]? = some (some (.int n)) := by rw [hρ]; rfl
    have g6 : (vw (ρ .un))[6]? = some (some (.list (someS.map .str))) := by rw [hρ]; rfl
    rw [← hρ']
    have ifw : ∀ {j : Int} {A K : SM}, (gSeq (gIf [] (tE (eOp eqD (eVar 4) (eC (.int j)))) A gNext) K) (ρ .un) s3 = if w = j then (gSeq A K) (ρ .un) s3 else K (ρ .un) s3 := fun {j A K} => by rw [hρ']; exact step_way
    have one : ∀ {z : List D}, St z → ∃ (y : Str) (z' : List D), eLstS (aCons (eCallS a m__law_any (aCons (eVar 0) (aCons (eVar 6) aNil))) aNil) (vw (ρ .un)) z = .ok (.list (([y] : List Str).map .str), z') ∧ y.length ≤ 20 ∧ St z' := fun {z} hz => by
      obtain ⟨y, z', ey, hy, hz'⟩ := any_str a (xs := someS) (by simp [someS]) (by decide) hz
      refine ⟨y, z', ?_, some_len y hy, hz'⟩
      simp [g0, g6, ey]
    have w1y : ∀ {y : Str}, y.length ≤ 20 → wt [y] ≤ 21 := fun {y} h => by show ([y].map (·.length)).sum + 1 ≤ 21; simp; omega
    rw [ifw]
    by_cases c0 : w = 0
    · rw [if_pos c0]
      obtain ⟨y, s4, e4, hy, hs4⟩ := any_str a (xs := signS) (by simp [signS]) (by decide) hs3
      have l1 := Txt.slice_le S none (some (n : Int))
      have l2 := Txt.slice_le S (some (n : Int)) none
      have hy' := sign_len y hy
      refine ⟨Txt.slice S none (some (n : Int)) ++ y ++ Txt.slice S (some (n : Int)) none, s4, ret_seq ?_, by rw [str_len_app, str_len_app]; omega, hs4⟩
      have e4' : m__law_any a [opq a, .list [.str " ", .str "-", .str "1", .str ":", .str "\n", .str "2"]] s3 = .ok (.str y, s4) := e4
      have c1 := cut_str (z := S) (by omega) none (some (n : Int))
      have c2 := cut_str (z := S) (by omega) (some (n : Int)) none
      have a1 := addS (x := Txt.slice S none (some (n : Int))) (y := y) (by omega)
      have a2 := addS (x := Txt.slice S none (some (n : Int)) ++ y) (y := Txt.slice S (some (n : Int)) none) (by rw [str_len_app]; omega)
      simp [sl_run, oNone, oSome, isI, g0, g1, g3, c1, c2, e4', a1, a2]
    rw [if_neg c0, ifw]
    by_cases c1 : w = 1
    · rw [if_pos c1]
      have l1 := Txt.slice_le S none (some (n : Int))
      have l2 := Txt.slice_le S (some ((n : Int) + 1)) none
      refine ⟨Txt.slice S none (some (n : Int)) ++ Txt.slice S (some ((n : Int) + 1)) none, s3, ret_seq ?_, by rw [str_len_app]; omega, hs3⟩
      have c1 := cut_str (z := S) (by omega) none (some (n : Int))
      have c2 := cut_str (z := S) (by omega) (some ((n : Int) + 1)) none
      have a1 := addS (x := Txt.slice S none (some (n : Int))) (y := Txt.slice S (some ((n : Int) + 1)) none) (by omega)
      simp [sl_run, oNone, oSome, isI, g0, g1, g3, c1, c2, a1]
    rw [if_neg c1, ifw]
    by_cases c2 : w = 2
    · rw [if_pos c2]
      obtain ⟨y, s4, e4, hy, hs4⟩ := one hs3
      have hw := w1y hy
      have b : wt (T.take k ++ [y] ++ T.drop k) ≤ S.length + 22 := by rw [wt_app, wt_app]; omega
      exact ⟨_, s4, ret_seq (glu (cat (cat (to5 _ _) e4 (by omega)) (fr5 _ _) (by rw [wt_app]; omega)) (by omega)), Nat.le_trans (wt_join _) (by omega), hs4⟩
    rw [if_neg c2, ifw]
    by_cases c3 : w = 3
    · rw [if_pos c3]
      obtain ⟨y, s4, e4, hy, hs4⟩ := one hs3
      have hw := w1y hy
      have b : wt (T.take k ++ [y] ++ T.drop (k + 1)) ≤ 2 * S.length + 24 := by rw [wt_app, wt_app]; omega
      exact ⟨_, s4, ret_seq (glu (cat (cat (to5 _ _) e4 (by omega)) (fr51 1 1 rfl _ _) (by rw [wt_app]; omega)) (by omega)), Nat.le_trans (wt_join _) (by omega), hs4⟩
    rw [if_neg c3, ifw]
    by_cases c4 : w = 4
    · rw [if_pos c4]
      have b : wt (T.take k ++ T.drop (k + 1)) ≤ 2 * S.length + 2 := by rw [wt_app]; omega
      exact ⟨_, s3, ret_seq (glu (cat (to5 _ _) (fr51 1 1 rfl _ _) (by omega)) (by omega)), Nat.le_trans (wt_join _) (by omega), hs3⟩
    rw [if_neg c4, ifw]
    by_cases c5 : w = 5
    · rw [if_pos c5]
      have b : wt (T.take k ++ ((T.drop k).take 2).reverse ++ T.drop (k + 2)) ≤ S.length + 1 := by rw [wt_app, wt_app, wt_rev]; omega
      have mid : eUn revLD (eSl (eVar 2) (oSome (eVar 5)) (oSome (eOp addD (eVar 5) (eC (.int 2))))) (vw (ρ .un)) s3 = .ok (.list ((((T.drop k).take 2).reverse).map .str), s3) := by
        have ad : addD (.int k) (.int 2) = some (.int ((k + 2 : Nat) : Int)) := rfl
        have eo : eOp addD (eVar 5) (eC (.int 2)) (vw (ρ .un)) s3 = .ok (.int ((k + 2 : Nat) : Int), s3) := by
          show ((eVar 5 (vw (ρ .un)) s3).bind fun x_ => (R.ok (PyData.int 2, x_.2)).bind fun y => ofO (addD x_.1 y.1) y.2) = _
          rw [v5]
          simp only [bind_ok, ad, ofO_some]
        show (((eSl (eVar 2) (oSome (eVar 5)) (oSome (eOp addD (eVar 5) (eC (.int 2)))) (vw (ρ .un)) s3)).bind fun x_ => ofO (revLD x_.1) x_.2) = _
        rw [sl_run, v2]
        simp only [bind_ok, oSome, v5, isI, ofO_some]
        rw [eo]
        simp only [bind_ok, isI, ofO_some]
        rw [cut_mid T k kT]
        simp only [ofO_some, bind_ok, revLD, List.map_reverse]
      have v7 : ∀ z, eVar 7 (vw (ρ (.d (.list ((((T.drop k).take 2).reverse).map .str))))) z = .ok (.list ((((T.drop k).take 2).reverse).map .str), z) := fun z => by rw [hρ]; rfl
      have asg : gAsg [] (eUn revLD (eSl (eVar 2) (oSome (eVar 5)) (oSome (eOp addD (eVar 5) (eC (.int 2)))))) (tgN 7) (ρ .un) s3 = .nx (ρ (.d (.list ((((T.drop k).take 2).reverse).map .str)))) s3 := by
        rw [s_gAsg, s_fz0, mid, exprS_ok]
        rw [hρ]
        rfl
      have fin := glu (cat (cat (to5 (.d (.list ((((T.drop k).take 2).reverse).map .str))) s3) (v7 s3) (by rw [wt_rev]; omega)) (fr51 2 2 rfl _ _) (by rw [wt_app, wt_rev]; omega)) (by omega)
      refine ⟨_, s3, ?_, Nat.le_trans (wt_join _) (Nat.le_trans b (by omega)), hs3⟩
      rw [s_gSeq, s_gSeq, asg, seq_nx, s_gRet, s_fz0, fin]
      rfl
    rw [if_neg c5]
    have b : wt (T ++ T.drop k) ≤ 2 * S.length + 2 := by rw [wt_app]; omega
    have fin := glu (x := .un) (cat (v2 .un s3) (fr5 .un s3) (by omega)) (by omega)
    refine ⟨_, s3, ?_, Nat.le_trans (wt_join (T ++ T.drop k)) (Nat.le_trans b (by omega)), hs3⟩
    rw [s_gRet, s_fz0, fin]
    rfl
  obtain ⟨S', s', e, h1, h2⟩ := key
  refine ⟨S', s', ?_, h1, h2⟩
  show (g__law_bent a (R8 (.d (opq a)) (.d (.str S)) .un .un .un .un .un .un) s).outS = _
  rw [e]
  rfl
end Lw
end

section
set_option Elab.async false
set_option linter.all false
set_option maxRecDepth 100000
set_option maxHeartbeats 4000000
/-! The plain law of k10, end. -/
namespace Lw
open PySem PySem.Spec PyProof.Rows L2 DL
abbrev R11 (x0 x1 x2 x3 x4 x5 x6 x7 x8 x9 x10 : L) : List L := [x0, x1, x2, x3, x4, x5, x6, x7, x8, x9, x10]
theorem kd_T (n : Int) : kdM8 (invT n) = .ok (.tuple [.str "InvalidText +", .int n]) := by kernel_rfl
theorem ne_T (n : Int) : neD (.tuple [.str "InvalidText +", .int n]) (.tuple [.str "InvalidText +", .int n]) = some (.bool false) := ne_self rfl (by show (1 : Nat) ≤ 64; decide)
noncomputable abbrev readL : EM := eCallLam m__law_call aNil [3] (lamM (eCall m_read_plan (aCons (eVar 0) aNil)) 0)
theorem lam_read {S : Str} : lamM (eCall m_read_plan (aCons (eVar 0) aNil)) 0 [.str S] [] = m_read_plan [.str S] := by
  show outR ((m_read_plan [.str S]).bind fun d => .ok (d, [])) = _
  cases m_read_plan [.str S] <;> rfl
abbrev bendB (q : Addr) : SM := gAsg [] (eCallS q m__law_bent (aCons (eVar 5) (aCons (eVar 3) aNil))) (tgN 3)
theorem bend_ok (q : Addr) {S : Str} (hS : S.length ≤ 400) (x0 x1 x2 x4 x6 x7 x8 x9 x10 : L) {s : List D} (hs : St s) : ∃ (S' : Str) (s' : List D), bendB q (R11 x0 x1 x2 (.d (.str S)) x4 (.d (opq q)) x6 x7 x8 x9 x10) s = .nx (R11 x0 x1 x2 (.d (.str S')) x4 (.d (opq q)) x6 x7 x8 x9 x10) s' ∧ S'.length ≤ 2 * S.length + 40 ∧ St s' := by
  obtain ⟨S', s', e, h1, h2⟩ := m_bent_ok q hS hs
  refine ⟨S', s', ?_, h1, h2⟩
  simp [R11, e]
noncomputable abbrev tellB : SM := (gSeq (gPar [] (iD' (eCall m__law_due (aCons (eVar 3) aNil)) (iD' readL iNil)) [9, 10])
  (gIf [] (tE (eOp isD (eVar 9) (eC .none))) (gIf [] (tOrr (tE (eOp neD (eOp ixD (eVar 10) (eC (.int 0))) (eC (.str "told")))) (tE (eOp neD (eCall m_plan_text (aCons (eOp ixD (eVar 10) (eC (.int 1))) aNil)) (eVar 3)))) (gRet [] (eC (.bool false))) gNext) (gIf [] (tE (eOp neD (eVar 10) (eTupS (aCons (eC (.str "InvalidText +")) (aCons (eVar 9) aNil))))) (gRet [] (eC (.bool false))) gNext)))
theorem tell_ok {S : Str} (hS : S.length ≤ 900) (x0 x1 x2 x4 x5 x6 x7 x8 x9 x10 : L) (s : List D) : ∃ y9 y10 : L, tellB (R11 x0 x1 x2 (.d (.str S)) x4 x5 x6 x7 x8 x9 x10) s = .nx (R11 x0 x1 x2 (.d (.str S)) x4 x5 x6 x7 x8 y9 y10) s := by
  have cap : ∀ ρ : Rho, ρ = vw (R11 x0 x1 x2 (.d (.str S)) x4 x5 x6 x7 x8 x9 x10) → capD ρ [3] = some [.str S] := fun ρ h => by subst h; rfl
  rcases due_read hS with ⟨n, hn, hd, hr⟩ | ⟨P, ok, hd, hr, ht⟩
  · refine ⟨.d (.int n), .d (.tuple [.str "InvalidText +", .int n]), ?_⟩
    have lam : readL (vw (R11 x0 x1 x2 (.d (.str S)) x4 x5 x6 x7 x8 x9 x10)) s = _ := lam_ex (js := [3]) (lm := lamM (eCall m_read_plan (aCons (eVar 0) aNil)) 0) (ρ := vw (R11 x0 x1 x2 (.d (.str S)) x4 x5 x6 x7 x8 x9 x10)) (s := s) (cap _ rfl) (lam_read.trans hr) (kd_T n)
    have nt := ne_T n
    unfold tellB
    rw [kstep (ρ' := R11 x0 x1 x2 (.d (.str S)) x4 x5 x6 x7 x8 (.d (.int n)) (.d (.tuple [.str "InvalidText +", .int n]))) (s' := s) (by
      rw [s_gPar, s_fz0]
      have e3 : eCall m__law_due (aCons (eVar 3) aNil) (vw (R11 x0 x1 x2 (.d (.str S)) x4 x5 x6 x7 x8 x9 x10)) s = .ok (.int n, s) := by
        show ((m__law_due [.str S]).bind fun d => R.ok (d, s)) = _
        rw [hd]; rfl
      rw [s_iD, e3]
      simp only [bind_ok]
      rw [s_iD]
      show exprS ((((readL (vw (R11 x0 x1 x2 (.d (.str S)) x4 x5 x6 x7 x8 x9 x10)) s).bind _)).bind _) _ = _
      rw [lam]
      rfl)]
    simp [R11, nt]
  · refine ⟨.d .none, .d (.tuple [.str "told", P.enc]), ?_⟩
    have lam : readL (vw (R11 x0 x1 x2 (.d (.str S)) x4 x5 x6 x7 x8 x9 x10)) s = _ := lam_ok (js := [3]) (lm := lamM (eCall m_read_plan (aCons (eVar 0) aNil)) 0) (ρ := vw (R11 x0 x1 x2 (.d (.str S)) x4 x5 x6 x7 x8 x9 x10)) (s := s) (cap _ rfl) (lam_read.trans hr)
    have pt := m_ptext_eq ok
    rw [ht] at pt
    have n1 : neD (.str "told") (.str "told") = some (.bool false) := by kernel_rfl
    have n2 : neD (.str S) (.str S) = some (.bool false) := ne_self rfl (Nat.zero_le _)
    unfold tellB
    rw [kstep (ρ' := R11 x0 x1 x2 (.d (.str S)) x4 x5 x6 x7 x8 (.d .none) (.d (.tuple [.str "told", P.enc]))) (s' := s) (by
      rw [s_gPar, s_fz0]
      have e3 : eCall m__law_due (aCons (eVar 3) aNil) (vw (R11 x0 x1 x2 (.d (.str S)) x4 x5 x6 x7 x8 x9 x10)) s = .ok (.none, s) := by
        show ((m__law_due [.str S]).bind fun d => R.ok (d, s)) = _
        rw [hd]; rfl
      rw [s_iD, e3]
      simp only [bind_ok]
      rw [s_iD]
      show exprS ((((readL (vw (R11 x0 x1 x2 (.d (.str S)) x4 x5 x6 x7 x8 x9 x10)) s).bind _)).bind _) _ = _
      rw [lam]
      rfl)]
    generalize P.enc = d at pt
    simp [R11, n1, n2, pt]
noncomputable abbrev turnB (q : Addr) : SM := (gSeq (gAsg [] (eJoin (eC (.str "\n")) (eCall m__law_lines (aCons (eCallS q m__law_plot (aCons (eVar 5) aNil)) aNil))) (tgN 3))
  (gSeq (gFor [] (wRng rng1 (aCons (eOp addD (eC (.int 1)) (eCallS q m__law_wind (aCons (eVar 5) (aCons (eC (.int 2)) aNil)))) aNil)) (tgN 8) (bendB q)) tellB))
theorem turn_ok (q : Addr) (x0 x1 x2 x3 x4 x6 x7 x8 x9 x10 : L) {s : List D} (hs : St s) : ∃ (y3 y8 y9 y10 : L) (s' : List D), St s' ∧ turnB q (R11 x0 x1 x2 x3 x4 (.d (opq q)) x6 x7 x8 x9 x10) s = .nx (R11 x0 x1 x2 y3 x4 (.d (opq q)) x6 x7 y8 y9 y10) s' := by
  obtain ⟨P, s1, e1, ok, hs1⟩ := m_plot_ok q hs
  obtain ⟨k, s2, e2, k0, k1, hs2⟩ := m_wind_ok q (many := 2) (by omega) (by omega) hs1
  have ll := m_llines_eq ok
  have tj := text_joined ok
  have sh := text_short ok
  have st1 : gAsg [] (eJoin (eC (.str "\n")) (eCall m__law_lines (aCons (eCallS q m__law_plot (aCons (eVar 5) aNil)) aNil))) (tgN 3) (R11 x0 x1 x2 x3 x4 (.d (opq q)) x6 x7 x8 x9 x10) s = .nx (R11 x0 x1 x2 (.d (.str (textS P))) x4 (.d (opq q)) x6 x7 x8 x9 x10) s1 := by
    generalize (rowsS P).map PyData.str = W at ll tj
    simp [R11, e1, ll, tj]
  generalize textS P = S at sh st1
  obtain ⟨S1, s3, b1, l1, hs3⟩ := bend_ok q (S := S) (by omega) x0 x1 x2 x4 x6 x7 (.d (.int 0)) x9 x10 hs2
  have fin : ∃ (S' : Str) (y8 : L) (s' : List D), S'.length ≤ 900 ∧ St s' ∧ gFor [] (wRng rng1 (aCons (eOp addD (eC (.int 1)) (eCallS q m__law_wind (aCons (eVar 5) (aCons (eC (.int 2)) aNil)))) aNil)) (tgN 8) (bendB q) (R11 x0 x1 x2 (.d (.str S)) x4 (.d (opq q)) x6 x7 x8 x9 x10) s1 = .nx (R11 x0 x1 x2 (.d (.str S')) x4 (.d (opq q)) x6 x7 y8 x9 x10) s' := by
    have wr : ∀ j : Int, k = j → wRng rng1 (aCons (eOp addD (eC (.int 1)) (eCallS q m__law_wind (aCons (eVar 5) (aCons (eC (.int 2)) aNil)))) aNil) (vw (R11 x0 x1 x2 (.d (.str S)) x4 (.d (opq q)) x6 x7 x8 x9 x10)) s1 = (ofO (rng1 [.int (1 + j)]) s2) := fun j hj => by
      subst hj
      simp [R11, wRng, e2]
    have : k = 0 ∨ k = 1 := by omega
    rcases this with h | h
    · refine ⟨S1, .d (.int 0), s3, by omega, hs3, ?_⟩
      rw [s_gFor, s_fz0, wr 0 h, show rng1 [.int (1 + 0)] = some [.int 0] from rfl, ofO_some, exprS_ok, s_loopN]
      show (bendB q (R11 x0 x1 x2 (.d (.str S)) x4 (.d (opq q)) x6 x7 (.d (.int 0)) x9 x10) s2).lp _ = _
      rw [b1, lp_nx]
      rfl
    · obtain ⟨S2, s4, b2, l2, hs4⟩ := bend_ok q (S := S1) (by omega) x0 x1 x2 x4 x6 x7 (.d (.int 1)) x9 x10 hs3
      refine ⟨S2, .d (.int 1), s4, by omega, hs4, ?_⟩
      rw [s_gFor, s_fz0, wr 1 h, show rng1 [.int (1 + 1)] = some [.int 0, .int 1] from rfl, ofO_some, exprS_ok, s_loopN]
      show (bendB q (R11 x0 x1 x2 (.d (.str S)) x4 (.d (opq q)) x6 x7 (.d (.int 0)) x9 x10) s2).lp _ = _
      rw [b1, lp_nx, s_loopN]
      show (bendB q (R11 x0 x1 x2 (.d (.str S1)) x4 (.d (opq q)) x6 x7 (.d (.int 1)) x9 x10) s3).lp _ = _
      rw [b2, lp_nx]
      rfl
  obtain ⟨S', y8, s5, l5, hs5, e5⟩ := fin
  obtain ⟨y9, y10, e6⟩ := tell_ok l5 x0 x1 x2 x4 (.d (opq q)) x6 x7 y8 x9 x10 s5
  refine ⟨.d (.str S'), y8, y9, y10, s5, hs5, ?_⟩
  unfold turnB
  rw [s_gSeq, st1, seq_nx, s_gSeq, e5, seq_nx]
  exact e6
theorem turns_loop (q : Addr) (x0 x1 x2 x4 x7 : L) : ∀ (xs : List D) (x3 x6 x8 x9 x10 : L) (s : List D), St s → ∃ (y3 y6 y8 y9 y10 : L) (s' : List D), St s' ∧ loopF (tgN 6) (turnB q) xs (R11 x0 x1 x2 x3 x4 (.d (opq q)) x6 x7 x8 x9 x10) s = .nx (R11 x0 x1 x2 y3 x4 (.d (opq q)) y6 x7 y8 y9 y10) s'
  | [], x3, x6, x8, x9, x10, s, hs => ⟨x3, x6, x8, x9, x10, s, hs, rfl⟩
  | d :: xs, x3, x6, x8, x9, x10, s, hs => by
    obtain ⟨y3, y8, y9, y10, s1, hs1, e1⟩ := turn_ok q x0 x1 x2 x3 x4 (.d d) x7 x8 x9 x10 hs
    obtain ⟨z3, z6, z8, z9, z10, s2, hs2, e2⟩ := turns_loop q x0 x1 x2 x4 x7 xs y3 (.d d) y8 y9 y10 s1 hs1
    refine ⟨z3, z6, z8, z9, z10, s2, hs2, ?_⟩
    rw [s_loopN]
    show (turnB q (R11 x0 x1 x2 x3 x4 (.d (opq q)) (.d d) x7 x8 x9 x10) s).lp _ = _
    rw [e1, lp_nx]
    exact e2
noncomputable abbrev badB : SM := (gIf [] (tE (eOp neD (eCallLam m__law_call aNil [7] (lamM (eCall m_read_plan (aCons (eVar 0) aNil)) 0)) (eTupS (aCons (eC (.str "InvalidText +")) (aCons (eC (.int 0)) aNil))))) (gRet [] (eC (.bool false))) gNext)
def badL : List D := [.none, .int 5, .list [.str "line - - - -"], .tuple [.str "line - - - -"], .bool true]
theorem bad_read : ∀ d ∈ badL, m_read_plan [d] = .ex (invT 0) := fun d hd => by
  unfold badL at hd
  simp only [List.mem_cons, List.not_mem_nil, or_false] at hd
  rcases hd with rfl | rfl | rfl | rfl | rfl <;> kernel_rfl
theorem bad_loop (x0 x1 x2 x3 x4 x5 x6 x8 x9 x10 : L) (sp : List D) : ∀ (ds : List D) (x7 : L), (∀ d ∈ ds, m_read_plan [d] = .ex (invT 0)) → ∃ y7 : L,
    loopF (tgN 7) badB ds (R11 x0 x1 x2 x3 x4 x5 x6 x7 x8 x9 x10) sp = .nx (R11 x0 x1 x2 x3 x4 x5 x6 y7 x8 x9 x10) sp
  | [], x7, _ => ⟨x7, rfl⟩
  | d :: ds, x7, hd => by
    obtain ⟨y7, ih⟩ := bad_loop x0 x1 x2 x3 x4 x5 x6 x8 x9 x10 sp ds (.d d) fun z hz => hd z (List.mem_cons_of_mem _ hz)
    refine ⟨y7, ?_⟩
    have b := hd d List.mem_cons_self
    have step : badB (R11 x0 x1 x2 x3 x4 x5 x6 (.d d) x8 x9 x10) sp = .nx (R11 x0 x1 x2 x3 x4 x5 x6 (.d d) x8 x9 x10) sp :=
      lam_if (cs := [d]) (e := invT 0) rfl (by
        show outR ((m_read_plan [d]).bind fun d => R.ok (d, [])) = _
        rw [b]
        rfl) (kd_T 0) rfl (ne_T 0)
    rw [s_loopN]
    show (badB (R11 x0 x1 x2 x3 x4 x5 x6 (.d d) x8 x9 x10) sp).lp _ = _
    rw [step, lp_nx]
    exact ih
theorem rest_ok (q : Addr) (x0 x1 : L) {s : List D} (hs : St s) : ∃ (ρ' : List L) (s' : List D), ρ'.length = 10 ∧ g_law_rest q (R11 x0 x1 .un .un .un (.d (opq q)) .un .un .un .un .un) s = .nx (x0 :: ρ') s' := by
  obtain ⟨y3, y6, y8, y9, y10, s', hs', e1⟩ := turns_loop q x0 x1 .un .un .un ((List.range 10).map fun i : Nat => .int (i : Int)) .un .un .un .un .un s hs
  obtain ⟨y7, e2⟩ := bad_loop x0 x1 .un y3 .un (.d (opq q)) y6 y8 y9 y10 s' badL .un bad_read
  refine ⟨[x1, .un, y3, .un, .d (opq q), y6, y7, y8, y9, y10], s', rfl, ?_⟩
  have r : ∀ w : Rho, wRng rng1 (aCons (eC (.int 10)) aNil) w s = .ok ((List.range 10).map fun i : Nat => .int (i : Int), s) := fun w => rfl
  have g : g_law_rest q = gSeq (gFor [] (wRng rng1 (aCons (eC (.int 10)) aNil)) (tgN 6) (turnB q)) (gFor [] (wSeq (eLstS (aCons (eC .none) (aCons (eC (.int 5)) (aCons (eLstS (aCons (eC (.str "line - - - -")) aNil)) (aCons (eTupS (aCons (eC (.str "line - - - -")) aNil)) (aCons (eC (.bool true)) aNil))))))) (tgN 7) badB) := rfl
  rw [g, s_gSeq, s_gFor, r, exprS_ok, s_fz0, e1, seq_nx, s_gFor, s_fz0]
  have w : ∀ ρ : Rho, wSeq (eLstS (aCons (eC .none) (aCons (eC (.int 5)) (aCons (eLstS (aCons (eC (.str "line - - - -")) aNil)) (aCons (eTupS (aCons (eC (.str "line - - - -")) aNil)) (aCons (eC (.bool true)) aNil)))))) ρ s' = .ok (badL, s') := fun ρ => rfl
  rw [w, exprS_ok]
  exact e2
abbrev R0 (x0 x1 : L) : List L := R11 x0 x1 .un .un .un .un .un .un .un .un .un
theorem k_law_eq (x0 x1 x2 x3 x4 x5 x6 x7 x8 x9 x10 : L) (s : List D) : k_law (R11 x0 x1 x2 x3 x4 x5 x6 x7 x8 x9 x10) s = .nx (R11 x0 .un .un .un .un .un .un .un .un .un .un) [] := by kernel_rfl
theorem once_ok {ns : List Int} {k : Nat} (hk : k ≤ 1000) : gSpool m__law_spool (aCons (eVar 0) (aCons (eVar 1) aNil)) 5 g_law_rest k_law (R0 (.d (.list (ns.map .int))) (.d (.int (k : Int)))) [] = .nx (R0 (.d (.list (ns.map .int))) .un) [] := by
  obtain ⟨s, es, hs⟩ := m_spool_ok (ns := ns) hk
  generalize PyData.list (ns.map .int) = d at es ⊢
  exact spool_once (n := 10) (ds := [d, .int (k : Int)]) (s0 := []) rfl es rfl (k_law_eq ..) fun q => rest_ok q (.d d) (.d (.int (k : Int))) hs
theorem turns_ok {ns : List Int} : ∀ ks : List Nat, (∀ k ∈ ks, k ≤ 1000) → loopF (tgN 1) (gSpool m__law_spool (aCons (eVar 0) (aCons (eVar 1) aNil)) 5 g_law_rest k_law) (ks.map fun (k : Nat) => .int (k : Int)) (R0 (.d (.list (ns.map .int))) .un) [] = .nx (R0 (.d (.list (ns.map .int))) .un) []
  | [], _ => rfl
  | k :: ks, h => by
    rw [List.map_cons, s_loopN]
    show (gSpool m__law_spool (aCons (eVar 0) (aCons (eVar 1) aNil)) 5 g_law_rest k_law (R0 (.d (.list (ns.map .int))) (.d (.int (k : Int)))) []).lp _ = _
    rw [once_ok (h k List.mem_cons_self), lp_nx]
    exact turns_ok ks fun j hj => h j (List.mem_cons_of_mem _ hj)
def lastL : List (Str × Int) := [("", 1), ("notch head 1", 2), ("line 1:1 - - -", 2), ("line - - - -\n", 2), ("line - - - -\nnotch tail 1\nnotch head 1", 4), ("notch head 1\nline - - - -", 3), ("line - - - - -", 1)]
theorem last_read : ∀ z ∈ lastL, m_read_plan [.str z.1] = .ex (invT z.2) := fun z hz => by
  unfold lastL at hz
  simp only [List.mem_cons, List.not_mem_nil, or_false] at hz
  rcases hz with rfl | rfl | rfl | rfl | rfl | rfl | rfl <;> kernel_rfl
noncomputable abbrev lastB : SM := (gIf [] (tE (eOp neD readL (eTupS (aCons (eC (.str "InvalidText +")) (aCons (eVar 4) aNil))))) (gRet [] (eC (.bool false))) gNext)
abbrev lastT : TgM := tgT 2 (tgsCons (tgN 3) (tgsCons (tgN 4) tgsNil))
theorem last_loop (x0 x1 x2 x5 x6 x7 x8 x9 x10 : L) (sp : List D) : ∀ (zs : List (Str × Int)) (x3 x4 : L), (∀ z ∈ zs, m_read_plan [.str z.1] = .ex (invT z.2)) → ∃ y3 y4 : L,
    loopF lastT lastB (zs.map fun z => .tuple [.str z.1, .int z.2]) (R11 x0 x1 x2 x3 x4 x5 x6 x7 x8 x9 x10) sp = .nx (R11 x0 x1 x2 y3 y4 x5 x6 x7 x8 x9 x10) sp
  | [], x3, x4, _ => ⟨x3, x4, rfl⟩
  | (S, n) :: zs, x3, x4, hd => by
    obtain ⟨y3, y4, ih⟩ := last_loop x0 x1 x2 x5 x6 x7 x8 x9 x10 sp zs (.d (.str S)) (.d (.int n)) fun z hz => hd z (List.mem_cons_of_mem _ hz)
    refine ⟨y3, y4, ?_⟩
    have b := hd (S, n) List.mem_cons_self
    have step : lastB (R11 x0 x1 x2 (.d (.str S)) (.d (.int n)) x5 x6 x7 x8 x9 x10) sp = .nx (R11 x0 x1 x2 (.d (.str S)) (.d (.int n)) x5 x6 x7 x8 x9 x10) sp :=
      lam_if (cs := [.str S]) (e := invT n) rfl (lam_read.trans b) (kd_T n) rfl (ne_T n)
    have lt : lastT (.tuple [.str S, .int n]) (R11 x0 x1 x2 x3 x4 x5 x6 x7 x8 x9 x10) = some (R11 x0 x1 x2 (.d (.str S)) (.d (.int n)) x5 x6 x7 x8 x9 x10) := rfl
    rw [List.map_cons, loopF]
    simp only [lt]
    rw [step]
    exact ih
theorem tail_ok (x0 : L) : (g_law_tail (R0 x0 .un) []).out = .ok (.bool true) := by
  obtain ⟨y3, y4, e⟩ := last_loop x0 .un (.d (.list ((lastL.take 5).map fun z => .tuple [.str z.1, .int z.2]))) .un .un .un .un .un .un [] lastL .un .un last_read
  unfold g_law_tail
  rw [kstep (ρ' := R11 x0 .un (.d (.list ((lastL.take 4).map fun z => .tuple [.str z.1, .int z.2]))) .un .un .un .un .un .un .un .un) (s' := []) (by rw [s_gAsg, s_fz0]; kernel_rfl)]
  rw [kstep (ρ' := R11 x0 .un (.d (.list ((lastL.take 5).map fun z => .tuple [.str z.1, .int z.2]))) .un .un .un .un .un .un .un .un) (s' := []) (by rw [s_gAsg, s_fz0]; kernel_rfl)]
  rw [kstep (ρ' := R11 x0 .un (.d (.list ((lastL.take 5).map fun z => .tuple [.str z.1, .int z.2]))) y3 y4 .un .un .un .un .un .un) (s' := []) (by
    rw [s_gFor, s_fz0]
    show exprS (R.ok (lastL.map fun z => PyData.tuple [.str z.1, .int z.2], [])) _ = _
    rw [exprS_ok]
    exact e)]
  rfl
theorem law_math (ns : List Int) (hl : ns.length ≤ 63) : m_law [.list (ns.map PyData.int)] = .ok (.bool true) := by
  unfold m_law
  rw [s_runF]
  unfold g_law
  obtain ⟨m, em, m1⟩ : ∃ m : Nat, max 1 (min 8 ((ns.length : Int))) = (m : Int) ∧ m ≤ 10 := ⟨(max 1 (min 8 ((ns.length : Int)))).toNat, by omega, by omega⟩
  have rr := rng1_nat (m := m) (by omega)
  have w : wRng rng1 (aCons (eCB maxD (aCons (eC (.int 1)) (aCons (eCB minD (aCons (eC (.int 8)) (aCons (eCB lenD (aCons (eVar 0) aNil)) aNil))) aNil))) aNil) (vw (fz [] (R0 (.d (.list (ns.map .int))) .un))) [] = .ok ((List.range m).map fun (i : Nat) => .int (i : Int), []) := by
    simp [R0, R11, wRng, em, rr]
  show (gSeq (gFor [] _ (tgN 1) _) g_law_tail (R0 (.d (.list (ns.map .int))) .un) []).out = _
  rw [s_gSeq, s_gFor, w, exprS_ok, s_fz0, turns_ok (List.range m) (fun k hk => by have := List.mem_range.mp hk; omega), seq_nx]
  exact tail_ok _
end Lw
end

section
set_option Elab.async false
set_option linter.all false
set_option maxRecDepth 100000
set_option maxHeartbeats 4000000
namespace Lw
open PySem PySem.Spec PyProof.Rows L2 DL
def topS (i : Nat) : Stmt := PySem.Challenge.pw_reelstrip_k10_strings_that_are_no_plans.main.body.getD i (.Pass ⟨0, 0, 0, 0⟩)
structure Txt (G : GC) : Prop where
  b_isinstance : G.mg "isinstance" = none
  b_bool : G.mg "bool" = none
  b_int : G.mg "int" = none
  b_len : G.mg "len" = none
  b_tuple : G.mg "tuple" = none
  b_all : G.mg "all" = none
  b_str : G.mg "str" = none
  b_zip : G.mg "zip" = none
  b_abs : G.mg "abs" = none
  b_sorted : G.mg "sorted" = none
  b_set : G.mg "set" = none
  b_range : G.mg "range" = none
  b_list : G.mg "list" = none
  b_ValueError : G.mg "ValueError" = none
  b_max : G.mg "max" = none
  b_min : G.mg "min" = none
  c_MOST_STEP : ∃ t, G.mg "MOST_STEP" = some (.int 2 t)
  c_MOST_FAR : ∃ t, G.mg "MOST_FAR" = some (.int 4 t)
  c_MOST_NOTCHES : ∃ t, G.mg "MOST_NOTCHES" = some (.int 2 t)
  c_MOST_LINES : ∃ t, G.mg "MOST_LINES" = some (.int 4 t)
  e_InvalidPlan : ExcF G "InvalidPlan"
  d_FIGURES : DicF G "FIGURES" tab_FIGURES
  d_STEPS : DicF G "STEPS" tab_STEPS
  k : ExcK8 G
  root : RootF G "ReelError"
  t_law : LamF G "law"
  i_InvalidText : MetF G "InvalidText" "__init__" "InvalidText.__init__" (clsAt (topS 9) 0)
  ox_InvalidText : OexF G "InvalidText" "line"
  f_is_int : DefF G "is_int" (topS 15)
  f_is_action : DefF G "is_action" (topS 16)
  f_is_line : DefF G "is_line" (topS 17)
  f_is_notch : DefF G "is_notch" (topS 18)
  f_is_plan : DefF G "is_plan" (topS 19)
  f_need_plan : DefF G "need_plan" (topS 20)
  f_word_of : DefF G "word_of" (topS 24)
  f_text_of : DefF G "text_of" (topS 25)
  f_action_in : DefF G "action_in" (topS 26)
  f_line_in : DefF G "line_in" (topS 27)
  f_read_so : DefF G "read_so" (topS 28)
  f_plan_text : DefF G "plan_text" (topS 29)
  f_read_plan : DefF G "read_plan" (topS 30)
  f__law_spool : DefF G "_law_spool" (topS 32)
  f__law_wind : DefF G "_law_wind" (topS 33)
  f__law_any : DefF G "_law_any" (topS 34)
  f__law_deed : DefF G "_law_deed" (topS 35)
  f__law_row : DefF G "_law_row" (topS 36)
  f__law_plot : DefF G "_law_plot" (topS 37)
  f__law_is_whole : DefF G "_law_is_whole" (topS 38)
  f__law_is_deed : DefF G "_law_is_deed" (topS 39)
  f__law_is_row : DefF G "_law_is_row" (topS 40)
  f__law_is_mark : DefF G "_law_is_mark" (topS 41)
  f__law_is_plot : DefF G "_law_is_plot" (topS 42)
  f__law_kinds : DefF G "_law_kinds" (topS 43)
  f__law_call : DefF G "_law_call" (topS 44)
  f__law_lines : DefF G "_law_lines" (topS 45)
  f__law_deed_in : DefF G "_law_deed_in" (topS 46)
  f__law_line_in : DefF G "_law_line_in" (topS 47)
  f__law_due : DefF G "_law_due" (topS 48)
  f__law_bent : DefF G "_law_bent" (topS 49)
abbrev s_InvalidText_x : Stmt := clsAt (topS 9) 0
abbrev N_InvalidText_x : List Str := ["self", "line"]
theorem sc_InvalidText_x : FnScope N_InvalidText_x ["self", "line"] (defScope s_InvalidText_x) := ⟨rfl, rfl, rfl, by decide +kernel, rfl, by decide +kernel, by decide +kernel⟩
theorem ok_InvalidText_x {G : GC} (T : Txt G) : FnI G 1 "InvalidText" "line" :=
  def_okI (k := 0) T.i_InvalidText T.ox_InvalidText sc_InvalidText_x rfl rfl (fun _ _ _ _ _ _ us hl => match us, hl with | [_, _], _ => rfl) fun cdv A outer s H E => pss_init T.ox_InvalidText T.root rfl (by decide) rfl rfl (Or.inl rfl) (Or.inl rfl) (by decide) (by decide) (by decide) (by decide)
abbrev s_is_int : Stmt := topS 15
abbrev N_is_int : List Str := ["value", "low", "high"]
theorem sc_is_int : FnScope N_is_int ["value", "low", "high"] (defScope s_is_int) := ⟨rfl, rfl, rfl, by decide +kernel, rfl, by decide +kernel, by decide +kernel⟩
theorem ok_is_int {G : GC} (T : Txt G) : FnG G 1 "is_int" 3 m_is_int :=
  def_okG (k := 0) T.f_is_int sc_is_int rfl (fun _ _ _ _ _ _ us hl => match us, hl with | [_, _, _], _ => rfl) fun cdv A outer s H F0 E ecd hr hx ho =>
  (psd_one (psd_ret noP (pd_and (pd_isi .int (by decide +kernel) (by rfl) T.b_isinstance (by rfl) T.b_int (pd_var (pv 0))) (pd_and (pd_not (pd_isi .bool (by decide +kernel) (by rfl) T.b_isinstance (by rfl) T.b_bool (pd_var (pv 0)))) (pd_one (pd_chain op_le op_le od_cmp od_cmp (pd_var (pv 1)) (pd_var (pv 0)) (pd_var (pv 2))))))))
abbrev s_is_action : Stmt := topS 16
abbrev N_is_action : List Str := ["value", "many"]
theorem sc_is_action : FnScope N_is_action ["value", "many"] (defScope s_is_action) := ⟨rfl, rfl, rfl, by decide +kernel, rfl, by decide +kernel, by decide +kernel⟩
theorem ok_is_action {G : GC} (T : Txt G) (H_is_int : FnG G 1 "is_int" 3 m_is_int) : FnG G 2 "is_action" 2 m_is_action :=
  def_okG (k := 1) T.f_is_action sc_is_action rfl (fun _ _ _ _ _ _ us hl => match us, hl with | [_, _], _ => rfl) fun cdv A outer s H F0 E ecd hr hx ho =>
  (psd_cons (psd_if noP (ptd_cmp op_isN od_is (pd_var (pv 0)) pd_non (nomark _)) (psd_one (psd_ret noP pd_bl)) psd_nil)
  (psd_cons (psd_if noP (ptd_w (pwd_or (ptd_not (ptd_val (pd_isi .tuple (by decide +kernel) (by rfl) T.b_isinstance (by rfl) T.b_tuple (pd_var (pv 0))))) (pwd_or1 (ptd_cmp (or_neP (room64 hr)) od_ne (pd_len T.b_len (pad_cons (pd_var (pv 0)) pad_nil)) pd_int (nomark _))))) (psd_one (psd_ret noP pd_bl)) psd_nil)
  (psd_one (psd_ret noP (pd_and (pd_callG H_is_int hr (by decide) hx (pad_cons (pd_ix (pd_var (pv 0)) pd_int) (pad_cons (pd_op op_sub od_sub pd_int (pd_gint T.c_MOST_STEP)) (pad_cons (pd_gint T.c_MOST_STEP) pad_nil))) (aCons_len (aCons_len (aCons_len aNil_len)))) (pd_one (pd_callG H_is_int hr (by decide) hx (pad_cons (pd_ix (pd_var (pv 0)) pd_int) (pad_cons pd_int (pad_cons (pd_op op_sub od_sub (pd_var (pv 1)) pd_int) pad_nil))) (aCons_len (aCons_len (aCons_len aNil_len))))))))))
abbrev s_is_line : Stmt := topS 17
abbrev N_is_line : List Str := ["value", "many", "one"]
theorem sc_is_line : FnScope N_is_line ["value", "many"] (defScope s_is_line) := ⟨rfl, rfl, rfl, by decide +kernel, rfl, by decide +kernel, by decide +kernel⟩
theorem ok_is_line {G : GC} (T : Txt G) (H_is_action : FnG G 2 "is_action" 2 m_is_action) : FnG G 3 "is_line" 2 m_is_line :=
  def_okG (k := 2) T.f_is_line sc_is_line rfl (fun _ _ _ _ _ _ us hl => match us, hl with | [_, _], _ => rfl) fun cdv A outer s H F0 E ecd hr hx ho =>
  (psd_one (psd_ret noP (pd_and (pd_isi .tuple (by decide +kernel) (by rfl) T.b_isinstance (by rfl) T.b_tuple (pd_var (pv 0))) (pd_and (pd_cmp (or_eqP (room64 hr)) od_eq (pd_len T.b_len (pad_cons (pd_var (pv 0)) pad_nil)) pd_int (nomark _)) (pd_one (pd_all T.b_all rfl (pad_cons (pd_lc (own := [("one", 2)]) rfl sc_is_line.nd (pid_seq (pd_var (pv 0))) (blkOk_by (N := N_is_line) (sc := defScope s_is_line) (by decide +kernel)) (fun _ _ _ _ _ => (prd_name (pg_name (i := 2) sc_is_line.nd rfl (by first | exact Or.inl rfl | exact Or.inr rfl)) (show (2 : Nat) ∈ [2] by decide) (show (2 : Nat) < N_is_line.length by decide))) (fun _ _ _ _ _ => ptsd_nil) (fun _ _ _ _ _ => (pd_callG H_is_action hr (by decide) passN (pad_cons (pd_var (pv 2)) (pad_cons (pd_var (pv 1)) pad_nil)) (aCons_len (aCons_len aNil_len))))) pad_nil)))))))
abbrev s_is_notch : Stmt := topS 18
abbrev N_is_notch : List Str := ["value"]
theorem sc_is_notch : FnScope N_is_notch ["value"] (defScope s_is_notch) := ⟨rfl, rfl, rfl, by decide +kernel, rfl, by decide +kernel, by decide +kernel⟩
theorem ok_is_notch {G : GC} (T : Txt G) (H_is_int : FnG G 1 "is_int" 3 m_is_int) : FnG G 2 "is_notch" 1 m_is_notch :=
  def_okG (k := 1) T.f_is_notch sc_is_notch rfl (fun _ _ _ _ _ _ us hl => match us, hl with | [_], _ => rfl) fun cdv A outer s H F0 E ecd hr hx ho =>
  (psd_cons (psd_if noP (ptd_w (pwd_or (ptd_not (ptd_val (pd_isi .tuple (by decide +kernel) (by rfl) T.b_isinstance (by rfl) T.b_tuple (pd_var (pv 0))))) (pwd_or (ptd_cmp (or_neP (room64 hr)) od_ne (pd_len T.b_len (pad_cons (pd_var (pv 0)) pad_nil)) pd_int (nomark _)) (pwd_or1 (ptd_not (ptd_val (pd_isi .str (by decide +kernel) (by rfl) T.b_isinstance (by rfl) T.b_str (pd_ix (pd_var (pv 0)) pd_int)))))))) (psd_one (psd_ret noP pd_bl)) psd_nil)
  (psd_one (psd_ret noP (pd_and (pd_cmp (or_inP (room66 hr)) od_in (pd_ix (pd_var (pv 0)) pd_int) (pd_tup (pad_cons pd_str (pad_cons pd_str pad_nil))) (by rfl)) (pd_one (pd_callG H_is_int hr (by decide) hx (pad_cons (pd_ix (pd_var (pv 0)) pd_int) (pad_cons pd_int (pad_cons (pd_gint T.c_MOST_FAR) pad_nil))) (aCons_len (aCons_len (aCons_len aNil_len)))))))))
abbrev s_is_plan : Stmt := topS 19
abbrev N_is_plan : List Str := ["value", "lines", "notches", "one", "other", "line"]
theorem sc_is_plan : FnScope N_is_plan ["value"] (defScope s_is_plan) := ⟨rfl, rfl, rfl, by decide +kernel, rfl, by decide +kernel, by decide +kernel⟩
theorem ok_is_plan {G : GC} (T : Txt G) (H_is_notch : FnG G 2 "is_notch" 1 m_is_notch) (H_is_line : FnG G 3 "is_line" 2 m_is_line) : FnG G 4 "is_plan" 1 m_is_plan :=
  def_okG (k := 3) T.f_is_plan sc_is_plan rfl (fun _ _ _ _ _ _ us hl => match us, hl with | [_], _ => rfl) fun cdv A outer s H F0 E ecd hr hx ho =>
  (psd_cons (psd_if noP (ptd_w (pwd_or (ptd_not (ptd_val (pd_isi .tuple (by decide +kernel) (by rfl) T.b_isinstance (by rfl) T.b_tuple (pd_var (pv 0))))) (pwd_or1 (ptd_cmp (or_neP (room64 hr)) od_ne (pd_len T.b_len (pad_cons (pd_var (pv 0)) pad_nil)) pd_int (nomark _))))) (psd_one (psd_ret noP pd_bl)) psd_nil)
  (psd_cons (psd_asg noP (pd_var (pv 0)) (pgd_tup rfl (pgsd_cons (pgd_name (pg_name (i := 1) sc_is_plan.nd rfl (by first | exact Or.inl rfl | exact Or.inr rfl))) (pgsd_cons (pgd_name (pg_name (i := 2) sc_is_plan.nd rfl (by first | exact Or.inl rfl | exact Or.inr rfl))) pgsd_nil))))
  (psd_cons (psd_if noP (ptd_w (pwd_or (ptd_not (ptd_val (pd_isi .tuple (by decide +kernel) (by rfl) T.b_isinstance (by rfl) T.b_tuple (pd_var (pv 1))))) (pwd_or1 (ptd_not (ptd_chain op_le op_le od_cmp od_cmp pd_int (pd_len T.b_len (pad_cons (pd_var (pv 1)) pad_nil)) (pd_gint T.c_MOST_LINES)))))) (psd_one (psd_ret noP pd_bl)) psd_nil)
  (psd_cons (psd_if noP (ptd_not (ptd_val (pd_all T.b_all rfl (pad_cons (pd_lc (own := [("line", 5)]) rfl sc_is_plan.nd (pid_seq (pd_var (pv 1))) (blkOk_by (N := N_is_plan) (sc := defScope s_is_plan) (by decide +kernel)) (fun _ _ _ _ _ => (prd_name (pg_name (i := 5) sc_is_plan.nd rfl (by first | exact Or.inl rfl | exact Or.inr rfl)) (show (5 : Nat) ∈ [5] by decide) (show (5 : Nat) < N_is_plan.length by decide))) (fun _ _ _ _ _ => ptsd_nil) (fun _ _ _ _ _ => (pd_callG H_is_line hr (by decide) passN (pad_cons (pd_var (pv 5)) (pad_cons (pd_len T.b_len (pad_cons (pd_var (pv 1)) pad_nil)) pad_nil)) (aCons_len (aCons_len aNil_len))))) pad_nil)))) (psd_one (psd_ret noP pd_bl)) psd_nil)
  (psd_cons (psd_if noP (ptd_w (pwd_or (ptd_not (ptd_val (pd_isi .tuple (by decide +kernel) (by rfl) T.b_isinstance (by rfl) T.b_tuple (pd_var (pv 2))))) (pwd_or (ptd_cmp op_gt od_cmp (pd_len T.b_len (pad_cons (pd_var (pv 2)) pad_nil)) (pd_gint T.c_MOST_NOTCHES) (nomark _)) (pwd_or1 (ptd_not (ptd_val (pd_all T.b_all rfl (pad_cons (pd_lc (own := [("one", 3)]) rfl sc_is_plan.nd (pid_seq (pd_var (pv 2))) (blkOk_by (N := N_is_plan) (sc := defScope s_is_plan) (by decide +kernel)) (fun _ _ _ _ _ => (prd_name (pg_name (i := 3) sc_is_plan.nd rfl (by first | exact Or.inl rfl | exact Or.inr rfl)) (show (3 : Nat) ∈ [3] by decide) (show (3 : Nat) < N_is_plan.length by decide))) (fun _ _ _ _ _ => ptsd_nil) (fun _ _ _ _ _ => (pd_callG H_is_notch hr (by decide) passN (pad_cons (pd_var (pv 3)) pad_nil) (aCons_len aNil_len)))) pad_nil)))))))) (psd_one (psd_ret noP pd_bl)) psd_nil)
  (psd_one (psd_ret noP (pd_all T.b_all rfl (pad_cons (pd_lc (own := [("one", 3), ("other", 4)]) rfl sc_is_plan.nd (pid_zip (by rfl) T.b_zip (pad_cons (pd_var (pv 2)) (pad_cons (pd_sl (pd_var (pv 2)) (pod_some pd_int) pod_none) pad_nil))) (blkOk_by (N := N_is_plan) (sc := defScope s_is_plan) (by decide +kernel)) (fun _ _ _ _ _ => (prd_tup rfl (prds_cons (prd_name (pg_name (i := 3) sc_is_plan.nd rfl (by first | exact Or.inl rfl | exact Or.inr rfl)) (show (3 : Nat) ∈ [3, 4] by decide) (show (3 : Nat) < N_is_plan.length by decide)) (prds_cons (prd_name (pg_name (i := 4) sc_is_plan.nd rfl (by first | exact Or.inl rfl | exact Or.inr rfl)) (show (4 : Nat) ∈ [3, 4] by decide) (show (4 : Nat) < N_is_plan.length by decide)) prds_nil)))) (fun _ _ _ _ _ => ptsd_nil) (fun _ _ _ _ _ => (pd_cmp (or_pLt (room64 hr)) od_pLt (pd_var (pv 3)) (pd_var (pv 4)) (nomark _)))) pad_nil)))))))))
abbrev s_need_plan : Stmt := topS 20
abbrev N_need_plan : List Str := ["plan"]
theorem sc_need_plan : FnScope N_need_plan ["plan"] (defScope s_need_plan) := ⟨rfl, rfl, rfl, by decide +kernel, rfl, by decide +kernel, by decide +kernel⟩
theorem ok_need_plan {G : GC} (T : Txt G) (H_is_plan : FnG G 4 "is_plan" 1 m_is_plan) : FnG G 5 "need_plan" 1 m_need_plan :=
  def_okG (k := 4) T.f_need_plan sc_need_plan rfl (fun _ _ _ _ _ _ us hl => match us, hl with | [_], _ => rfl) fun cdv A outer s H F0 E ecd hr hx ho =>
  (psd_one (psd_if noP (ptd_not (ptd_val (pd_callG H_is_plan hr (by decide) hx (pad_cons (pd_var (pv 0)) pad_nil) (aCons_len aNil_len)))) (psd_one (psd_raiseG T.e_InvalidPlan rfl rfl rfl rfl rfl)) psd_nil))
abbrev s_word_of : Stmt := topS 24
abbrev N_word_of : List Str := ["act"]
theorem sc_word_of : FnScope N_word_of ["act"] (defScope s_word_of) := ⟨rfl, rfl, rfl, by decide +kernel, rfl, by decide +kernel, by decide +kernel⟩
theorem ok_word_of {G : GC} (T : Txt G) : FnG G 1 "word_of" 1 m_word_of :=
  def_okG (k := 0) T.f_word_of sc_word_of rfl (fun _ _ _ _ _ _ us hl => match us, hl with | [_], _ => rfl) fun cdv A outer s H F0 E ecd hr hx ho =>
  (psd_one (psd_ret noP (pd_if (ptd_cmp op_isN od_is (pd_var (pv 0)) pd_non (nomark _)) pd_str (pd_op or_addU od_add (pd_op or_addU od_add (pd_strc T.b_str (pad_cons (pd_ix (pd_var (pv 0)) pd_int) pad_nil)) pd_str) (pd_strc T.b_str (pad_cons (pd_ix (pd_var (pv 0)) pd_int) pad_nil))))))
abbrev s_text_of : Stmt := topS 25
abbrev N_text_of : List Str := ["plan", "lines", "line", "end", "far", "act"]
theorem sc_text_of : FnScope N_text_of ["plan"] (defScope s_text_of) := ⟨rfl, rfl, rfl, by decide +kernel, rfl, by decide +kernel, by decide +kernel⟩
theorem ok_text_of {G : GC} (T : Txt G) (H_word_of : FnG G 1 "word_of" 1 m_word_of) : FnG G 2 "text_of" 1 m_text_of :=
  def_okG (k := 1) T.f_text_of sc_text_of rfl (fun _ _ _ _ _ _ us hl => match us, hl with | [_], _ => rfl) fun cdv A outer s H F0 E ecd hr hx ho =>
  (psd_cons (psd_setLc noP rfl sc_text_of.nd (i := 1) rfl rfl rfl rfl (by decide +kernel) (own := [("line", 2)]) (pid_seq (pd_ix (pd_var (pv 0)) pd_int)) (blkOk_by (N := N_text_of) (sc := defScope s_text_of) (by decide +kernel)) (fun _ _ _ _ _ => (prd_name (pg_name (i := 2) sc_text_of.nd rfl (by first | exact Or.inl rfl | exact Or.inr rfl)) (show (2 : Nat) ∈ [2] by decide) (show (2 : Nat) < N_text_of.length by decide))) (fun _ _ _ _ _ => ptsd_nil) (fun _ _ _ _ _ => (pd_op or_addU od_add pd_str (pd_join pd_str (pd_lc (own := [("act", 5)]) rfl sc_text_of.nd (pid_seq (pd_var (pv 2))) (blkOk_in (N := N_text_of) (by decide +kernel)) (fun _ _ _ _ _ => (prd_name (pg_name (i := 5) sc_text_of.nd rfl (by first | exact Or.inl rfl | exact Or.inr rfl)) (show (5 : Nat) ∈ [5] by decide) (show (5 : Nat) < N_text_of.length by decide))) (fun _ _ _ _ _ => ptsd_nil) (fun _ _ _ _ _ => (pd_callG H_word_of hr (by decide) passN (pad_cons (pd_var (pv 5)) pad_nil) (aCons_len aNil_len))))))))
  (psd_one (psd_ret noP (pd_join pd_str (pd_op or_addU od_add (pd_var (pv 1)) (pd_lc (own := [("end", 3), ("far", 4)]) rfl sc_text_of.nd (pid_seq (pd_ix (pd_var (pv 0)) pd_int)) (blkOk_by (N := N_text_of) (sc := defScope s_text_of) (by decide +kernel)) (fun _ _ _ _ _ => (prd_tup rfl (prds_cons (prd_name (pg_name (i := 3) sc_text_of.nd rfl (by first | exact Or.inl rfl | exact Or.inr rfl)) (show (3 : Nat) ∈ [3, 4] by decide) (show (3 : Nat) < N_text_of.length by decide)) (prds_cons (prd_name (pg_name (i := 4) sc_text_of.nd rfl (by first | exact Or.inl rfl | exact Or.inr rfl)) (show (4 : Nat) ∈ [3, 4] by decide) (show (4 : Nat) < N_text_of.length by decide)) prds_nil)))) (fun _ _ _ _ _ => ptsd_nil) (fun _ _ _ _ _ => (pd_op or_addU od_add (pd_op or_addU od_add (pd_op or_addU od_add pd_str (pd_var (pv 3))) pd_str) (pd_strc T.b_str (pad_cons (pd_var (pv 4)) pad_nil))))))))))
abbrev s_action_in : Stmt := topS 26
abbrev N_action_in : List Str := ["word", "parts"]
theorem sc_action_in : FnScope N_action_in ["word"] (defScope s_action_in) := ⟨rfl, rfl, rfl, by decide +kernel, rfl, by decide +kernel, by decide +kernel⟩
theorem ok_action_in {G : GC} (T : Txt G) : FnG G 1 "action_in" 1 m_action_in :=
  def_okG (k := 0) T.f_action_in sc_action_in rfl (fun _ _ _ _ _ _ us hl => match us, hl with | [_], _ => rfl) fun cdv A outer s H F0 E ecd hr hx ho =>
  (psd_cons (psd_if noP (ptd_cmp (or_eqP (room64 hr)) od_eq (pd_var (pv 0)) pd_str (nomark _)) (psd_one (psd_ret noP pd_non)) psd_nil)
  (psd_cons (psd_asg noP (pd_split (pd_var (pv 0)) pd_str) (pgd_name (pg_name (i := 1) sc_action_in.nd rfl (by first | exact Or.inl rfl | exact Or.inr rfl))))
  (psd_cons (psd_if noP (ptd_cmp (or_neP (room64 hr)) od_ne (pd_len T.b_len (pad_cons (pd_var (pv 1)) pad_nil)) pd_int (nomark _)) (psd_one (psd_ret noP (pd_tup pad_nil))) psd_nil)
  (psd_one (psd_ret noP (pd_tup (pad_cons (pd_getT T.d_STEPS (pd_ix (pd_var (pv 1)) pd_int)) (pad_cons (pd_getT T.d_FIGURES (pd_ix (pd_var (pv 1)) pd_int)) pad_nil))))))))
abbrev s_line_in : Stmt := topS 27
abbrev N_line_in : List Str := ["text", "words", "found", "word"]
theorem sc_line_in : FnScope N_line_in ["text"] (defScope s_line_in) := ⟨rfl, rfl, rfl, by decide +kernel, rfl, by decide +kernel, by decide +kernel⟩
theorem ok_line_in {G : GC} (T : Txt G) (H_is_notch : FnG G 2 "is_notch" 1 m_is_notch) (H_is_line : FnG G 3 "is_line" 2 m_is_line) (H_action_in : FnG G 1 "action_in" 1 m_action_in) : FnG G 4 "line_in" 1 m_line_in :=
  def_okG (k := 3) T.f_line_in sc_line_in rfl (fun _ _ _ _ _ _ us hl => match us, hl with | [_], _ => rfl) fun cdv A outer s H F0 E ecd hr hx ho =>
  (psd_cons (psd_asg noP (pd_split (pd_var (pv 0)) pd_str) (pgd_name (pg_name (i := 1) sc_line_in.nd rfl (by first | exact Or.inl rfl | exact Or.inr rfl))))
  (psd_cons (psd_if noP (ptd_cmp (or_eqP (room64 hr)) od_eq (pd_ix (pd_var (pv 1)) pd_int) pd_str (nomark _)) (psd_cons (psd_asg noP (pd_tuplec T.b_tuple (pad_cons (pd_lc (own := [("word", 3)]) rfl sc_line_in.nd (pid_seq (pd_sl (pd_var (pv 1)) (pod_some pd_int) pod_none)) (blkOk_by (N := N_line_in) (sc := defScope s_line_in) (by decide +kernel)) (fun _ _ _ _ _ => (prd_name (pg_name (i := 3) sc_line_in.nd rfl (by first | exact Or.inl rfl | exact Or.inr rfl)) (show (3 : Nat) ∈ [3] by decide) (show (3 : Nat) < N_line_in.length by decide))) (fun _ _ _ _ _ => ptsd_nil) (fun _ _ _ _ _ => (pd_callG H_action_in hr (by decide) passN (pad_cons (pd_var (pv 3)) pad_nil) (aCons_len aNil_len)))) pad_nil)) (pgd_name (pg_name (i := 2) sc_line_in.nd rfl (by first | exact Or.inl rfl | exact Or.inr rfl))))
  (psd_one (psd_ret noP (pd_if (ptd_val (pd_callG H_is_line hr (by decide) hx (pad_cons (pd_var (pv 2)) (pad_cons (pd_gint T.c_MOST_LINES) pad_nil)) (aCons_len (aCons_len aNil_len)))) (pd_tup (pad_cons pd_str (pad_cons (pd_var (pv 2)) pad_nil))) pd_non)))) psd_nil)
  (psd_cons (psd_if noP (ptd_w (pwd_and (ptd_cmp (or_eqP (room64 hr)) od_eq (pd_ix (pd_var (pv 1)) pd_int) pd_str (nomark _)) (pwd_and1 (ptd_cmp (or_eqP (room64 hr)) od_eq (pd_len T.b_len (pad_cons (pd_var (pv 1)) pad_nil)) pd_int (nomark _))))) (psd_cons (psd_asg noP (pd_tup (pad_cons (pd_ix (pd_var (pv 1)) pd_int) (pad_cons (pd_getT T.d_FIGURES (pd_ix (pd_var (pv 1)) pd_int)) pad_nil))) (pgd_name (pg_name (i := 2) sc_line_in.nd rfl (by first | exact Or.inl rfl | exact Or.inr rfl))))
  (psd_one (psd_ret noP (pd_if (ptd_val (pd_callG H_is_notch hr (by decide) hx (pad_cons (pd_var (pv 2)) pad_nil) (aCons_len aNil_len))) (pd_tup (pad_cons pd_str (pad_cons (pd_var (pv 2)) pad_nil))) pd_non)))) psd_nil)
  (psd_one (psd_ret noP pd_non)))))
abbrev s_read_so : Stmt := topS 28
abbrev N_read_so : List Str := ["value", "rows", "lines", "plan", "text", "word", "found"]
theorem sc_read_so : FnScope N_read_so ["value"] (defScope s_read_so) := ⟨rfl, rfl, rfl, by decide +kernel, rfl, by decide +kernel, by decide +kernel⟩
theorem ok_read_so {G : GC} (T : Txt G) (H_is_plan : FnG G 4 "is_plan" 1 m_is_plan) (H_InvalidText_x : FnI G 1 "InvalidText" "line") (H_line_in : FnG G 4 "line_in" 1 m_line_in) : FnG G 5 "read_so" 1 m_read_so :=
  def_okG (k := 4) T.f_read_so sc_read_so rfl (fun _ _ _ _ _ _ us hl => match us, hl with | [_], _ => rfl) fun cdv A outer s H F0 E ecd hr hx ho =>
  (psd_cons (psd_if noP (ptd_not (ptd_val (pd_isi .str (by decide +kernel) (by rfl) T.b_isinstance (by rfl) T.b_str (pd_var (pv 0))))) (psd_one (psd_raiseX H_InvalidText_x noP hr (by decide) rfl (L2N.takes_of rfl rfl rfl rfl) (fun _ _ _ _ h => h) passN rfl pd_int)) psd_nil)
  (psd_cons (psd_setLc noP rfl sc_read_so.nd (i := 1) rfl rfl rfl rfl (by decide +kernel) (own := [("text", 4)]) (pid_seq (pd_split (pd_var (pv 0)) pd_str)) (blkOk_by (N := N_read_so) (sc := defScope s_read_so) (by decide +kernel)) (fun _ _ _ _ _ => (prd_name (pg_name (i := 4) sc_read_so.nd rfl (by first | exact Or.inl rfl | exact Or.inr rfl)) (show (4 : Nat) ∈ [4] by decide) (show (4 : Nat) < N_read_so.length by decide))) (fun _ _ _ _ _ => ptsd_nil) (fun _ _ _ _ _ => (pd_callG H_line_in hr (by decide) passN (pad_cons (pd_var (pv 4)) pad_nil) (aCons_len aNil_len))))
  (psd_cons (psd_if noP (ptd_cmp (or_inP (room66 hr)) od_in pd_non (pd_var (pv 1)) (by rfl)) (psd_one (psd_raiseX H_InvalidText_x noP hr (by decide) rfl (L2N.takes_of rfl rfl rfl rfl) (fun _ _ _ _ h => h) passN rfl (pd_op or_addU od_add (pd_m1L PySem.F.slot_list_index PySem.F.type_list_index (mt_index (room66 hr)) (fun _ _ _ => index_num) (pd_var (pv 1)) pd_non) pd_int))) psd_nil)
  (psd_cons (psd_asg noP (pd_tuplec T.b_tuple (pad_cons (pd_lc (own := [("word", 5), ("found", 6)]) rfl sc_read_so.nd (pid_seq (pd_var (pv 1))) (blkOk_by (N := N_read_so) (sc := defScope s_read_so) (by decide +kernel)) (fun _ _ _ _ _ => (prd_tup rfl (prds_cons (prd_name (pg_name (i := 5) sc_read_so.nd rfl (by first | exact Or.inl rfl | exact Or.inr rfl)) (show (5 : Nat) ∈ [5, 6] by decide) (show (5 : Nat) < N_read_so.length by decide)) (prds_cons (prd_name (pg_name (i := 6) sc_read_so.nd rfl (by first | exact Or.inl rfl | exact Or.inr rfl)) (show (6 : Nat) ∈ [5, 6] by decide) (show (6 : Nat) < N_read_so.length by decide)) prds_nil)))) (fun _ _ _ _ _ => (ptsd_one (ptd_cmp (or_eqP (room64 hr)) od_eq (pd_var (pv 5)) pd_str (nomark _)))) (fun _ _ _ _ _ => (pd_var (pv 6)))) pad_nil)) (pgd_name (pg_name (i := 2) sc_read_so.nd rfl (by first | exact Or.inl rfl | exact Or.inr rfl))))
  (psd_cons (psd_asg noP (pd_tup (pad_cons (pd_var (pv 2)) (pad_cons (pd_tuplec T.b_tuple (pad_cons (pd_lc (own := [("word", 5), ("found", 6)]) rfl sc_read_so.nd (pid_seq (pd_var (pv 1))) (blkOk_by (N := N_read_so) (sc := defScope s_read_so) (by decide +kernel)) (fun _ _ _ _ _ => (prd_tup rfl (prds_cons (prd_name (pg_name (i := 5) sc_read_so.nd rfl (by first | exact Or.inl rfl | exact Or.inr rfl)) (show (5 : Nat) ∈ [5, 6] by decide) (show (5 : Nat) < N_read_so.length by decide)) (prds_cons (prd_name (pg_name (i := 6) sc_read_so.nd rfl (by first | exact Or.inl rfl | exact Or.inr rfl)) (show (6 : Nat) ∈ [5, 6] by decide) (show (6 : Nat) < N_read_so.length by decide)) prds_nil)))) (fun _ _ _ _ _ => (ptsd_one (ptd_cmp (or_eqP (room64 hr)) od_eq (pd_var (pv 5)) pd_str (nomark _)))) (fun _ _ _ _ _ => (pd_var (pv 6)))) pad_nil)) pad_nil))) (pgd_name (pg_name (i := 3) sc_read_so.nd rfl (by first | exact Or.inl rfl | exact Or.inr rfl))))
  (psd_cons (psd_if noP (ptd_w (pwd_or (ptd_cmp (or_neP (room64 hr)) od_ne (pd_lc (own := [("word", 5), ("found", 6)]) rfl sc_read_so.nd (pid_seq (pd_sl (pd_var (pv 1)) pod_none (pod_some (pd_len T.b_len (pad_cons (pd_var (pv 2)) pad_nil))))) (blkOk_by (N := N_read_so) (sc := defScope s_read_so) (by decide +kernel)) (fun _ _ _ _ _ => (prd_tup rfl (prds_cons (prd_name (pg_name (i := 5) sc_read_so.nd rfl (by first | exact Or.inl rfl | exact Or.inr rfl)) (show (5 : Nat) ∈ [5, 6] by decide) (show (5 : Nat) < N_read_so.length by decide)) (prds_cons (prd_name (pg_name (i := 6) sc_read_so.nd rfl (by first | exact Or.inl rfl | exact Or.inr rfl)) (show (6 : Nat) ∈ [5, 6] by decide) (show (6 : Nat) < N_read_so.length by decide)) prds_nil)))) (fun _ _ _ _ _ => ptsd_nil) (fun _ _ _ _ _ => (pd_var (pv 5)))) (pd_litMul (pad_cons pd_str pad_nil) (pd_len T.b_len (pad_cons (pd_var (pv 2)) pad_nil))) (nomark _)) (pwd_or1 (ptd_not (ptd_val (pd_callG H_is_plan hr (by decide) hx (pad_cons (pd_var (pv 3)) pad_nil) (aCons_len aNil_len))))))) (psd_one (psd_raiseX H_InvalidText_x noP hr (by decide) rfl (L2N.takes_of rfl rfl rfl rfl) (fun _ _ _ _ h => h) passN rfl (pd_op or_addU od_add (pd_len T.b_len (pad_cons (pd_var (pv 1)) pad_nil)) pd_int))) psd_nil)
  (psd_one (psd_ret noP (pd_var (pv 3))))))))))
abbrev s_plan_text : Stmt := topS 29
abbrev N_plan_text : List Str := ["plan"]
theorem sc_plan_text : FnScope N_plan_text ["plan"] (defScope s_plan_text) := ⟨rfl, rfl, rfl, by decide +kernel, rfl, by decide +kernel, by decide +kernel⟩
theorem ok_plan_text {G : GC} (T : Txt G) (H_text_of : FnG G 2 "text_of" 1 m_text_of) (H_need_plan : FnG G 5 "need_plan" 1 m_need_plan) : FnG G 6 "plan_text" 1 m_plan_text :=
  def_okG (k := 5) T.f_plan_text sc_plan_text rfl (fun _ _ _ _ _ _ us hl => match us, hl with | [_], _ => rfl) fun cdv A outer s H F0 E ecd hr hx ho =>
  (psd_cons (psd_drop noP (pd_callG H_need_plan hr (by decide) hx (pad_cons (pd_var (pv 0)) pad_nil) (aCons_len aNil_len)))
  (psd_one (psd_ret noP (pd_callG H_text_of hr (by decide) hx (pad_cons (pd_var (pv 0)) pad_nil) (aCons_len aNil_len)))))
abbrev s_read_plan : Stmt := topS 30
abbrev N_read_plan : List Str := ["value"]
theorem sc_read_plan : FnScope N_read_plan ["value"] (defScope s_read_plan) := ⟨rfl, rfl, rfl, by decide +kernel, rfl, by decide +kernel, by decide +kernel⟩
theorem ok_read_plan {G : GC} (T : Txt G) (H_read_so : FnG G 5 "read_so" 1 m_read_so) : FnG G 6 "read_plan" 1 m_read_plan :=
  def_okG (k := 5) T.f_read_plan sc_read_plan rfl (fun _ _ _ _ _ _ us hl => match us, hl with | [_], _ => rfl) fun cdv A outer s H F0 E ecd hr hx ho =>
  (psd_one (psd_ret noP (pd_callG H_read_so hr (by decide) hx (pad_cons (pd_var (pv 0)) pad_nil) (aCons_len aNil_len))))
abbrev s__law_spool : Stmt := topS 32
abbrev N__law_spool : List Str := ["script", "k", "cell"]
theorem sc__law_spool : FnScope N__law_spool ["script", "k"] (defScope s__law_spool) := ⟨rfl, rfl, rfl, by decide +kernel, rfl, by decide +kernel, by decide +kernel⟩
theorem ok__law_spool {G : GC} (T : Txt G) : FnN G 1 "_law_spool" 2 m__law_spool :=
  def_okN (k := 0) T.f__law_spool sc__law_spool rfl (fun _ _ _ _ _ _ us hl => match us, hl with | [_, _], _ => rfl) fun cdv A outer s H F0 E ecd hr hx ho =>
  (psn_cons (psd_asg noP (pd_op or_addU od_add (pd_op or_mulU od_mul pd_int (pd_var (pv 1))) pd_int) (pgd_name (pg_name (i := 2) sc__law_spool.nd rfl (by first | exact Or.inl rfl | exact Or.inr rfl))))
  (psn_cons (psd_if noP (ptd_cmp op_lt od_cmp (pd_var (pv 1)) (pd_len T.b_len (pad_cons (pd_var (pv 0)) pad_nil)) (nomark _)) (psd_one (psd_asg noP (pd_op or_modU od_mod (pd_abs T.b_abs (pad_cons (pd_intc T.b_int (pad_cons (pd_ix (pd_var (pv 0)) (pd_var (pv 1))) pad_nil)) pad_nil)) (pd_op or_mulU od_mul (pd_op or_mulU od_mul (pd_op or_mulU od_mul (pd_op op_pow od_pow pd_int pd_int) (pd_op op_pow od_pow pd_int pd_int)) (pd_op op_pow od_pow pd_int pd_int)) (pd_op op_pow od_pow pd_int pd_int))) (pgd_name (pg_name (i := 2) sc__law_spool.nd rfl (by first | exact Or.inl rfl | exact Or.inr rfl))))) (psd_one (psd_if noP (ptd_cmp op_gt od_cmp (pd_len T.b_len (pad_cons (pd_var (pv 0)) pad_nil)) pd_int (nomark _)) (psd_one (psd_asg noP (pd_op or_addU od_add (pd_var (pv 2)) (pd_op or_modU od_mod (pd_abs T.b_abs (pad_cons (pd_intc T.b_int (pad_cons (pd_ix (pd_var (pv 0)) pd_int) pad_nil)) pad_nil)) pd_int)) (pgd_name (pg_name (i := 2) sc__law_spool.nd rfl (by first | exact Or.inl rfl | exact Or.inr rfl))))) psd_nil)))
  (psn_ret (pad_cons (pd_if (ptd_cmp op_ge od_cmp (pd_var (pv 2)) (pd_op op_pow od_pow pd_int pd_int) (nomark _)) (pd_var (pv 2)) pd_int) (pad_cons (pd_op or_addU od_add (pd_op or_modU od_mod (pd_intc T.b_int (pad_cons (pd_op or_addU od_add (pd_op or_addU od_add (pd_op or_mulU od_mul (pd_op or_modU od_mod (pd_var (pv 2)) pd_int) pd_int) (pd_op or_mulU od_mul pd_int (pd_var (pv 1)))) pd_int) pad_nil)) pd_int) pd_int) pad_nil)))))
abbrev s__law_wind : Stmt := topS 33
abbrev N__law_wind : List Str := ["spool", "many", "found", "wide"]
theorem sc__law_wind : FnScope N__law_wind ["spool", "many"] (defScope s__law_wind) := ⟨rfl, rfl, rfl, by decide +kernel, rfl, by decide +kernel, by decide +kernel⟩
theorem ok__law_wind {G : GC} (T : Txt G) : FnS G 1 "_law_wind" 2 m__law_wind :=
  def_okS (k := 0) T.f__law_wind sc__law_wind rfl (fun _ _ _ _ _ _ us hl => match us, hl with | [_, _], _ => rfl) fun cdv A outer s H F0 E a hp ecd hr hx ho =>
  (psd_cons (psd_if hp (ptd_cmp op_gt od_cmp (pd_spGet (i := 0) (pv 0)) pd_int (nomark _)) (psd_cons (psd_asg hp (pd_op or_modU od_mod (pd_intc T.b_int (pad_cons (pd_spGet (i := 0) (pv 0)) pad_nil)) (pd_var (pv 1))) (pgd_name (pg_name (i := 2) sc__law_wind.nd rfl (by first | exact Or.inl rfl | exact Or.inr rfl))))
  (psd_cons (psd_spSet (i := 0) hp (pv 0) (pd_op or_divU od_fdiv (pd_spGet (i := 0) (pv 0)) (pd_var (pv 1))))
  (psd_one (psd_ret hp (pd_var (pv 2)))))) psd_nil)
  (psd_cons (psd_asg hp (pd_tup (pad_cons pd_int (pad_cons pd_int pad_nil))) (pgd_tup rfl (pgsd_cons (pgd_name (pg_name (i := 2) sc__law_wind.nd rfl (by first | exact Or.inl rfl | exact Or.inr rfl))) (pgsd_cons (pgd_name (pg_name (i := 3) sc__law_wind.nd rfl (by first | exact Or.inl rfl | exact Or.inr rfl))) pgsd_nil))))
  (psd_cons (psd_while hp ho (ptd_w (pwd_or (ptd_cmp op_lt od_cmp (pd_var (pv 3)) (pd_var (pv 1)) (nomark _)) (pwd_or1 (ptd_cmp (or_eqP (room64 hr)) od_eq (pd_var (pv 3)) pd_int (nomark _)))))
  (psd_cons (psd_spSet (i := 1) hp (pv 0) (pd_op or_modU od_mod (pd_intc T.b_int (pad_cons (pd_op or_addU od_add (pd_op or_mulU od_mul (pd_spGet (i := 1) (pv 0)) pd_int) pd_int) pad_nil)) pd_int))
  (psd_cons (psd_asg hp (pd_op or_addU od_add (pd_op or_mulU od_mul (pd_var (pv 2)) pd_int) (pd_op or_modU od_mod (pd_intc T.b_int (pad_cons (pd_op or_divU od_fdiv (pd_spGet (i := 1) (pv 0)) pd_int) pad_nil)) pd_int)) (pgd_name (pg_name (i := 2) sc__law_wind.nd rfl (by first | exact Or.inl rfl | exact Or.inr rfl))))
  (psd_one (psd_asg hp (pd_op or_mulU od_mul (pd_var (pv 3)) pd_int) (pgd_name (pg_name (i := 3) sc__law_wind.nd rfl (by first | exact Or.inl rfl | exact Or.inr rfl))))))))
  (psd_one (psd_ret hp (pd_op or_modU od_mod (pd_intc T.b_int (pad_cons (pd_var (pv 2)) pad_nil)) (pd_var (pv 1))))))))
abbrev s__law_any : Stmt := topS 34
abbrev N__law_any : List Str := ["spool", "things"]
theorem sc__law_any : FnScope N__law_any ["spool", "things"] (defScope s__law_any) := ⟨rfl, rfl, rfl, by decide +kernel, rfl, by decide +kernel, by decide +kernel⟩
theorem ok__law_any {G : GC} (T : Txt G) (H__law_wind : FnS G 1 "_law_wind" 2 m__law_wind) : FnS G 2 "_law_any" 2 m__law_any :=
  def_okS (k := 1) T.f__law_any sc__law_any rfl (fun _ _ _ _ _ _ us hl => match us, hl with | [_, _], _ => rfl) fun cdv A outer s H F0 E a hp ecd hr hx ho =>
  (psd_one (psd_ret hp (pd_ix (pd_var (pv 1)) (pd_callS H__law_wind hr (by decide) hx (pad_cons (pd_var (pv 0)) (pad_cons (pd_len T.b_len (pad_cons (pd_var (pv 1)) pad_nil)) pad_nil)) (aCons_len (aCons_len aNil_len))))))
abbrev s__law_deed : Stmt := topS 35
abbrev N__law_deed : List Str := ["spool", "many", "steps", "still"]
theorem sc__law_deed : FnScope N__law_deed ["spool", "many", "steps", "still"] (defScope s__law_deed) := ⟨rfl, rfl, rfl, by decide +kernel, rfl, by decide +kernel, by decide +kernel⟩
theorem ok__law_deed {G : GC} (T : Txt G) (H__law_wind : FnS G 1 "_law_wind" 2 m__law_wind) (H__law_any : FnS G 2 "_law_any" 2 m__law_any) : FnS G 3 "_law_deed" 4 m__law_deed :=
  def_okS (k := 2) T.f__law_deed sc__law_deed rfl (fun _ _ _ _ _ _ us hl => match us, hl with | [_, _, _, _], _ => rfl) fun cdv A outer s H F0 E a hp ecd hr hx ho =>
  (psd_cons (psd_if hp (ptd_cmp (or_eqP (room64 hr)) od_eq (pd_callS H__law_wind hr (by decide) hx (pad_cons (pd_var (pv 0)) (pad_cons (pd_var (pv 3)) pad_nil)) (aCons_len (aCons_len aNil_len))) pd_int (nomark _)) (psd_one (psd_ret hp pd_non)) psd_nil)
  (psd_one (psd_ret hp (pd_tup (pad_cons (pd_callS H__law_any hr (by decide) hx (pad_cons (pd_var (pv 0)) (pad_cons (pd_var (pv 2)) pad_nil)) (aCons_len (aCons_len aNil_len))) (pad_cons (pd_callS H__law_wind hr (by decide) hx (pad_cons (pd_var (pv 0)) (pad_cons (pd_var (pv 1)) pad_nil)) (aCons_len (aCons_len aNil_len))) pad_nil))))))
abbrev s__law_row : Stmt := topS 36
abbrev N__law_row : List Str := ["spool", "many", "onward", "head", "tail"]
theorem sc__law_row : FnScope N__law_row ["spool", "many"] (defScope s__law_row) := ⟨rfl, rfl, rfl, by decide +kernel, rfl, by decide +kernel, by decide +kernel⟩
theorem ok__law_row {G : GC} (T : Txt G) (H__law_deed : FnS G 3 "_law_deed" 4 m__law_deed) (H__law_any : FnS G 2 "_law_any" 2 m__law_any) : FnS G 4 "_law_row" 2 m__law_row :=
  def_okS (k := 3) T.f__law_row sc__law_row rfl (fun _ _ _ _ _ _ us hl => match us, hl with | [_, _], _ => rfl) fun cdv A outer s H F0 E a hp ecd hr hx ho =>
  (psd_cons (psd_asg hp (pd_callS H__law_any hr (by decide) hx (pad_cons (pd_var (pv 0)) (pad_cons (pd_lst (pad_cons (pd_lst (pad_cons pd_int (pad_cons pd_int (pad_cons pd_int pad_nil)))) (pad_cons (pd_lst (pad_cons (pd_un un_neg ud_neg pd_int) (pad_cons (pd_un un_neg ud_neg pd_int) (pad_cons (pd_un un_neg ud_neg pd_int) pad_nil)))) (pad_cons (pd_lst (pad_cons pd_int (pad_cons pd_int (pad_cons (pd_un un_neg ud_neg pd_int) pad_nil)))) (pad_cons (pd_lst (pad_cons pd_int (pad_cons pd_int (pad_cons (pd_un un_neg ud_neg pd_int) pad_nil)))) (pad_cons (pd_lst (pad_cons pd_int (pad_cons pd_int (pad_cons pd_int (pad_cons (pd_un un_neg ud_neg pd_int) pad_nil))))) pad_nil)))))) pad_nil)) (aCons_len (aCons_len aNil_len))) (pgd_name (pg_name (i := 2) sc__law_row.nd rfl (by first | exact Or.inl rfl | exact Or.inr rfl))))
  (psd_cons (psd_asg hp (pd_callS H__law_deed hr (by decide) hx (pad_cons (pd_var (pv 0)) (pad_cons (pd_var (pv 1)) (pad_cons (pd_lst (pad_cons pd_int (pad_cons pd_int (pad_cons pd_int (pad_cons pd_int (pad_cons pd_int pad_nil)))))) (pad_cons pd_int pad_nil)))) (aCons_len (aCons_len (aCons_len (aCons_len aNil_len))))) (pgd_name (pg_name (i := 3) sc__law_row.nd rfl (by first | exact Or.inl rfl | exact Or.inr rfl))))
  (psd_cons (psd_asg hp (pd_callS H__law_deed hr (by decide) hx (pad_cons (pd_var (pv 0)) (pad_cons (pd_var (pv 1)) (pad_cons (pd_lst (pad_cons (pd_un un_neg ud_neg pd_int) (pad_cons (pd_un un_neg ud_neg pd_int) (pad_cons (pd_un un_neg ud_neg pd_int) (pad_cons (pd_un un_neg ud_neg pd_int) (pad_cons pd_int pad_nil)))))) (pad_cons pd_int pad_nil)))) (aCons_len (aCons_len (aCons_len (aCons_len aNil_len))))) (pgd_name (pg_name (i := 4) sc__law_row.nd rfl (by first | exact Or.inl rfl | exact Or.inr rfl))))
  (psd_one (psd_ret hp (pd_tup (pad_cons (pd_var (pv 3)) (pad_cons (pd_callS H__law_deed hr (by decide) hx (pad_cons (pd_var (pv 0)) (pad_cons (pd_var (pv 1)) (pad_cons (pd_var (pv 2)) (pad_cons pd_int pad_nil)))) (aCons_len (aCons_len (aCons_len (aCons_len aNil_len))))) (pad_cons (pd_var (pv 4)) (pad_cons (pd_callS H__law_deed hr (by decide) hx (pad_cons (pd_var (pv 0)) (pad_cons (pd_var (pv 1)) (pad_cons (pd_lst (pad_cons pd_int (pad_cons pd_int (pad_cons (pd_un un_neg ud_neg pd_int) (pad_cons (pd_un un_neg ud_neg pd_int) pad_nil))))) (pad_cons pd_int pad_nil)))) (aCons_len (aCons_len (aCons_len (aCons_len aNil_len))))) pad_nil))))))))))
abbrev s__law_plot : Stmt := topS 37
abbrev N__law_plot : List Str := ["spool", "many", "marks", "turn"]
theorem sc__law_plot : FnScope N__law_plot ["spool"] (defScope s__law_plot) := ⟨rfl, rfl, rfl, by decide +kernel, rfl, by decide +kernel, by decide +kernel⟩
theorem ok__law_plot {G : GC} (T : Txt G) (H__law_row : FnS G 4 "_law_row" 2 m__law_row) (H__law_wind : FnS G 1 "_law_wind" 2 m__law_wind) (H__law_any : FnS G 2 "_law_any" 2 m__law_any) : FnS G 5 "_law_plot" 1 m__law_plot :=
  def_okS (k := 4) T.f__law_plot sc__law_plot rfl (fun _ _ _ _ _ _ us hl => match us, hl with | [_], _ => rfl) fun cdv A outer s H F0 E a hp ecd hr hx ho =>
  (psd_cons (psd_parN hp rfl (by decide) (pai_d (pd_op or_addU od_add pd_int (pd_callS H__law_wind hr (by decide) hx (pad_cons (pd_var (pv 0)) (pad_cons pd_int pad_nil)) (aCons_len (aCons_len aNil_len)))) (pai_l0 pai_nil)) (pgs_cons (pg_name (i := 1) sc__law_plot.nd rfl (by first | exact Or.inl rfl | exact Or.inr rfl)) (pgs_cons (pg_name (i := 2) sc__law_plot.nd rfl (by first | exact Or.inl rfl | exact Or.inr rfl)) pgs_nil)))
  (psd_cons (psd_for hp ho rfl (pid_range1 (by rfl) T.b_range (pad_cons (pd_callS H__law_wind hr (by decide) hx (pad_cons (pd_var (pv 0)) (pad_cons pd_int pad_nil)) (aCons_len (aCons_len aNil_len))) pad_nil)) (pgd_name (pg_name (i := 3) sc__law_plot.nd rfl (by first | exact Or.inl rfl | exact Or.inr rfl)))
  (psd_one (psd_appG hp (pv 2) (pd_tup (pad_cons (pd_callS H__law_any hr (by decide) hx (pad_cons (pd_var (pv 0)) (pad_cons (pd_lst (pad_cons pd_str (pad_cons pd_str pad_nil))) pad_nil)) (aCons_len (aCons_len aNil_len))) (pad_cons (pd_op or_addU od_add pd_int (pd_callS H__law_wind hr (by decide) hx (pad_cons (pd_var (pv 0)) (pad_cons pd_int pad_nil)) (aCons_len (aCons_len aNil_len)))) pad_nil))) (pe_bm PySem.F.plainAttrs_list PySem.F.slot_list_append PySem.F.type_list_append mt_append (pv 2) (pa_cons (pd_tup (pad_cons (pd_callS H__law_any hr (by decide) hx (pad_cons (pd_var (pv 0)) (pad_cons (pd_lst (pad_cons pd_str (pad_cons pd_str pad_nil))) pad_nil)) (aCons_len (aCons_len aNil_len))) (pad_cons (pd_op or_addU od_add pd_int (pd_callS H__law_wind hr (by decide) hx (pad_cons (pd_var (pv 0)) (pad_cons pd_int pad_nil)) (aCons_len (aCons_len aNil_len)))) pad_nil))) pa_nil)))))
  (psd_one (psd_ret hp (pd_tup (pad_cons (pd_tuplec T.b_tuple (pad_cons (pd_lc (own := [("turn", 3)]) rfl sc__law_plot.nd (pid_range1 (by rfl) T.b_range (pad_cons (pd_var (pv 1)) pad_nil)) (blkOk_by (N := N__law_plot) (sc := defScope s__law_plot) (by decide +kernel)) (fun _ _ _ _ _ => (prd_name (pg_name (i := 3) sc__law_plot.nd rfl (by first | exact Or.inl rfl | exact Or.inr rfl)) (show (3 : Nat) ∈ [3] by decide) (show (3 : Nat) < N__law_plot.length by decide))) (fun _ _ _ _ _ => ptsd_nil) (fun _ _ _ _ _ => (pd_callS H__law_row hr (by decide) passN (pad_cons (pd_var (pv 0)) (pad_cons (pd_var (pv 1)) pad_nil)) (aCons_len (aCons_len aNil_len))))) pad_nil)) (pad_cons (pd_tuplec T.b_tuple (pad_cons (pd_sortSet rfl (room64 hr) T.b_sorted T.b_set (pd_var (pv 2))) pad_nil)) pad_nil)))))))
abbrev s__law_is_whole : Stmt := topS 38
abbrev N__law_is_whole : List Str := ["thing", "low", "high"]
theorem sc__law_is_whole : FnScope N__law_is_whole ["thing", "low", "high"] (defScope s__law_is_whole) := ⟨rfl, rfl, rfl, by decide +kernel, rfl, by decide +kernel, by decide +kernel⟩
theorem ok__law_is_whole {G : GC} (T : Txt G) : FnG G 1 "_law_is_whole" 3 m__law_is_whole :=
  def_okG (k := 0) T.f__law_is_whole sc__law_is_whole rfl (fun _ _ _ _ _ _ us hl => match us, hl with | [_, _, _], _ => rfl) fun cdv A outer s H F0 E ecd hr hx ho =>
  (psd_one (psd_ret noP (pd_and (pd_isi .int (by decide +kernel) (by rfl) T.b_isinstance (by rfl) T.b_int (pd_var (pv 0))) (pd_and (pd_not (pd_isi .bool (by decide +kernel) (by rfl) T.b_isinstance (by rfl) T.b_bool (pd_var (pv 0)))) (pd_one (pd_chain op_le op_le od_cmp od_cmp (pd_var (pv 1)) (pd_var (pv 0)) (pd_var (pv 2))))))))
abbrev s__law_is_deed : Stmt := topS 39
abbrev N__law_is_deed : List Str := ["thing", "many"]
theorem sc__law_is_deed : FnScope N__law_is_deed ["thing", "many"] (defScope s__law_is_deed) := ⟨rfl, rfl, rfl, by decide +kernel, rfl, by decide +kernel, by decide +kernel⟩
theorem ok__law_is_deed {G : GC} (T : Txt G) (H__law_is_whole : FnG G 1 "_law_is_whole" 3 m__law_is_whole) : FnG G 2 "_law_is_deed" 2 m__law_is_deed :=
  def_okG (k := 1) T.f__law_is_deed sc__law_is_deed rfl (fun _ _ _ _ _ _ us hl => match us, hl with | [_, _], _ => rfl) fun cdv A outer s H F0 E ecd hr hx ho =>
  (psd_cons (psd_if noP (ptd_cmp op_isN od_is (pd_var (pv 0)) pd_non (nomark _)) (psd_one (psd_ret noP pd_bl)) psd_nil)
  (psd_cons (psd_if noP (ptd_w (pwd_or (ptd_not (ptd_val (pd_isi .tuple (by decide +kernel) (by rfl) T.b_isinstance (by rfl) T.b_tuple (pd_var (pv 0))))) (pwd_or1 (ptd_cmp (or_neP (room64 hr)) od_ne (pd_len T.b_len (pad_cons (pd_var (pv 0)) pad_nil)) pd_int (nomark _))))) (psd_one (psd_ret noP pd_bl)) psd_nil)
  (psd_one (psd_ret noP (pd_and (pd_callG H__law_is_whole hr (by decide) hx (pad_cons (pd_ix (pd_var (pv 0)) pd_int) (pad_cons (pd_un un_neg ud_neg pd_int) (pad_cons pd_int pad_nil))) (aCons_len (aCons_len (aCons_len aNil_len)))) (pd_one (pd_callG H__law_is_whole hr (by decide) hx (pad_cons (pd_ix (pd_var (pv 0)) pd_int) (pad_cons pd_int (pad_cons (pd_op op_sub od_sub (pd_var (pv 1)) pd_int) pad_nil))) (aCons_len (aCons_len (aCons_len aNil_len))))))))))
abbrev s__law_is_row : Stmt := topS 40
abbrev N__law_is_row : List Str := ["thing", "many", "deed"]
theorem sc__law_is_row : FnScope N__law_is_row ["thing", "many"] (defScope s__law_is_row) := ⟨rfl, rfl, rfl, by decide +kernel, rfl, by decide +kernel, by decide +kernel⟩
theorem ok__law_is_row {G : GC} (T : Txt G) (H__law_is_deed : FnG G 2 "_law_is_deed" 2 m__law_is_deed) : FnG G 3 "_law_is_row" 2 m__law_is_row :=
  def_okG (k := 2) T.f__law_is_row sc__law_is_row rfl (fun _ _ _ _ _ _ us hl => match us, hl with | [_, _], _ => rfl) fun cdv A outer s H F0 E ecd hr hx ho =>
  (psd_cons (psd_if noP (ptd_w (pwd_or (ptd_not (ptd_val (pd_isi .tuple (by decide +kernel) (by rfl) T.b_isinstance (by rfl) T.b_tuple (pd_var (pv 0))))) (pwd_or1 (ptd_cmp (or_neP (room64 hr)) od_ne (pd_len T.b_len (pad_cons (pd_var (pv 0)) pad_nil)) pd_int (nomark _))))) (psd_one (psd_ret noP pd_bl)) psd_nil)
  (psd_one (psd_ret noP (pd_cmp (or_eqP (room64 hr)) od_eq (pd_lc (own := [("deed", 2)]) rfl sc__law_is_row.nd (pid_seq (pd_var (pv 0))) (blkOk_by (N := N__law_is_row) (sc := defScope s__law_is_row) (by decide +kernel)) (fun _ _ _ _ _ => (prd_name (pg_name (i := 2) sc__law_is_row.nd rfl (by first | exact Or.inl rfl | exact Or.inr rfl)) (show (2 : Nat) ∈ [2] by decide) (show (2 : Nat) < N__law_is_row.length by decide))) (fun _ _ _ _ _ => (ptsd_one (ptd_not (ptd_val (pd_callG H__law_is_deed hr (by decide) passN (pad_cons (pd_var (pv 2)) (pad_cons (pd_var (pv 1)) pad_nil)) (aCons_len (aCons_len aNil_len))))))) (fun _ _ _ _ _ => (pd_var (pv 2)))) (pd_lst pad_nil) (nomark _)))))
abbrev s__law_is_mark : Stmt := topS 41
abbrev N__law_is_mark : List Str := ["thing"]
theorem sc__law_is_mark : FnScope N__law_is_mark ["thing"] (defScope s__law_is_mark) := ⟨rfl, rfl, rfl, by decide +kernel, rfl, by decide +kernel, by decide +kernel⟩
theorem ok__law_is_mark {G : GC} (T : Txt G) (H__law_is_whole : FnG G 1 "_law_is_whole" 3 m__law_is_whole) : FnG G 2 "_law_is_mark" 1 m__law_is_mark :=
  def_okG (k := 1) T.f__law_is_mark sc__law_is_mark rfl (fun _ _ _ _ _ _ us hl => match us, hl with | [_], _ => rfl) fun cdv A outer s H F0 E ecd hr hx ho =>
  (psd_cons (psd_if noP (ptd_w (pwd_or (ptd_not (ptd_val (pd_isi .tuple (by decide +kernel) (by rfl) T.b_isinstance (by rfl) T.b_tuple (pd_var (pv 0))))) (pwd_or (ptd_cmp (or_neP (room64 hr)) od_ne (pd_len T.b_len (pad_cons (pd_var (pv 0)) pad_nil)) pd_int (nomark _)) (pwd_or1 (ptd_not (ptd_val (pd_isi .str (by decide +kernel) (by rfl) T.b_isinstance (by rfl) T.b_str (pd_ix (pd_var (pv 0)) pd_int)))))))) (psd_one (psd_ret noP pd_bl)) psd_nil)
  (psd_one (psd_ret noP (pd_and (pd_cmp (or_inP (room66 hr)) od_in (pd_ix (pd_var (pv 0)) pd_int) (pd_tup (pad_cons pd_str (pad_cons pd_str pad_nil))) (by rfl)) (pd_one (pd_callG H__law_is_whole hr (by decide) hx (pad_cons (pd_ix (pd_var (pv 0)) pd_int) (pad_cons pd_int (pad_cons pd_int pad_nil))) (aCons_len (aCons_len (aCons_len aNil_len)))))))))
abbrev s__law_is_plot : Stmt := topS 42
abbrev N__law_is_plot : List Str := ["thing", "many", "mark", "row"]
theorem sc__law_is_plot : FnScope N__law_is_plot ["thing"] (defScope s__law_is_plot) := ⟨rfl, rfl, rfl, by decide +kernel, rfl, by decide +kernel, by decide +kernel⟩
theorem ok__law_is_plot {G : GC} (T : Txt G) (H__law_is_mark : FnG G 2 "_law_is_mark" 1 m__law_is_mark) (H__law_is_row : FnG G 3 "_law_is_row" 2 m__law_is_row) : FnG G 4 "_law_is_plot" 1 m__law_is_plot :=
  def_okG (k := 3) T.f__law_is_plot sc__law_is_plot rfl (fun _ _ _ _ _ _ us hl => match us, hl with | [_], _ => rfl) fun cdv A outer s H F0 E ecd hr hx ho =>
  (psd_cons (psd_if noP (ptd_w (pwd_or (ptd_not (ptd_val (pd_isi .tuple (by decide +kernel) (by rfl) T.b_isinstance (by rfl) T.b_tuple (pd_var (pv 0))))) (pwd_or (ptd_cmp (or_neP (room64 hr)) od_ne (pd_len T.b_len (pad_cons (pd_var (pv 0)) pad_nil)) pd_int (nomark _)) (pwd_or1 (ptd_not (ptd_val (pd_isi .tuple (by decide +kernel) (by rfl) T.b_isinstance (by rfl) T.b_tuple (pd_ix (pd_var (pv 0)) pd_int)))))))) (psd_one (psd_ret noP pd_bl)) psd_nil)
  (psd_cons (psd_asg noP (pd_len T.b_len (pad_cons (pd_ix (pd_var (pv 0)) pd_int) pad_nil)) (pgd_name (pg_name (i := 1) sc__law_is_plot.nd rfl (by first | exact Or.inl rfl | exact Or.inr rfl))))
  (psd_cons (psd_if noP (ptd_w (pwd_or (ptd_not (ptd_chain op_le op_le od_cmp od_cmp pd_int (pd_var (pv 1)) pd_int)) (pwd_or1 (ptd_cmp (or_neP (room64 hr)) od_ne (pd_lc (own := [("row", 3)]) rfl sc__law_is_plot.nd (pid_seq (pd_ix (pd_var (pv 0)) pd_int)) (blkOk_by (N := N__law_is_plot) (sc := defScope s__law_is_plot) (by decide +kernel)) (fun _ _ _ _ _ => (prd_name (pg_name (i := 3) sc__law_is_plot.nd rfl (by first | exact Or.inl rfl | exact Or.inr rfl)) (show (3 : Nat) ∈ [3] by decide) (show (3 : Nat) < N__law_is_plot.length by decide))) (fun _ _ _ _ _ => (ptsd_one (ptd_not (ptd_val (pd_callG H__law_is_row hr (by decide) passN (pad_cons (pd_var (pv 3)) (pad_cons (pd_var (pv 1)) pad_nil)) (aCons_len (aCons_len aNil_len))))))) (fun _ _ _ _ _ => (pd_var (pv 3)))) (pd_lst pad_nil) (nomark _))))) (psd_one (psd_ret noP pd_bl)) psd_nil)
  (psd_cons (psd_if noP (ptd_w (pwd_or (ptd_not (ptd_val (pd_isi .tuple (by decide +kernel) (by rfl) T.b_isinstance (by rfl) T.b_tuple (pd_ix (pd_var (pv 0)) pd_int)))) (pwd_or1 (ptd_cmp op_gt od_cmp (pd_len T.b_len (pad_cons (pd_ix (pd_var (pv 0)) pd_int) pad_nil)) pd_int (nomark _))))) (psd_one (psd_ret noP pd_bl)) psd_nil)
  (psd_cons (psd_if noP (ptd_cmp (or_neP (room64 hr)) od_ne (pd_lc (own := [("mark", 2)]) rfl sc__law_is_plot.nd (pid_seq (pd_ix (pd_var (pv 0)) pd_int)) (blkOk_by (N := N__law_is_plot) (sc := defScope s__law_is_plot) (by decide +kernel)) (fun _ _ _ _ _ => (prd_name (pg_name (i := 2) sc__law_is_plot.nd rfl (by first | exact Or.inl rfl | exact Or.inr rfl)) (show (2 : Nat) ∈ [2] by decide) (show (2 : Nat) < N__law_is_plot.length by decide))) (fun _ _ _ _ _ => (ptsd_one (ptd_not (ptd_val (pd_callG H__law_is_mark hr (by decide) passN (pad_cons (pd_var (pv 2)) pad_nil) (aCons_len aNil_len)))))) (fun _ _ _ _ _ => (pd_var (pv 2)))) (pd_lst pad_nil) (nomark _)) (psd_one (psd_ret noP pd_bl)) psd_nil)
  (psd_one (psd_ret noP (pd_cmp (or_eqP (room64 hr)) od_eq (pd_listc T.b_list (pad_cons (pd_ix (pd_var (pv 0)) pd_int) pad_nil)) (pd_sortSetT rfl (room64 hr) T.b_sorted T.b_set (pd_ix (pd_var (pv 0)) pd_int)) (nomark _)))))))))
abbrev s__law_kinds : Stmt := topS 43
abbrev N__law_kinds : List Str := ["e", "some", "words", "word", "good"]
theorem sc__law_kinds : FnScope N__law_kinds ["e"] (defScope s__law_kinds) := ⟨rfl, rfl, rfl, by decide +kernel, rfl, by decide +kernel, by decide +kernel⟩
theorem math__law_kinds (a : Addr) (c : Str) (hc : c ∈ excs8) : runF (g__law_kinds a c) 5 [opq a] = .ok (.str (kindsOf c)) := by
  have h : ∀ (b : Bool) (ρ : List L) (s : List D), eIsE a 0 b (vw (fz [] (L.d (opq a) :: ρ))) s = R.ok (PyData.bool b, s) := fun b ρ s => by
    rw [s_fz0]
    show (if isSp a (opq a) = true then R.ok (PyData.bool b, s) else .un) = _
    rw [isSp_self]; rfl
  unfold g__law_kinds
  rw [s_runF]
  show (gSeq _ _ [L.d (opq a), .un, .un, .un, .un] []).out = _
  rw [kstep (ρ' := [L.d (opq a), L.d (PyData.list [PyData.bool (decide (c = "InvalidFrame")), PyData.bool (decide (c = "InvalidNumber")), PyData.bool (decide (c = "InvalidPlan"))]), .un, .un, .un]) (s' := []) (by simp only [s_gAsg, s_eLstS, s_aCons, s_aNil, s_eOp, h, bind_ok]; rfl)]
  rw [kstep (ρ' := [L.d (opq a), L.d (PyData.list [PyData.bool (decide (c = "InvalidFrame")), PyData.bool (decide (c = "InvalidNumber")), PyData.bool (decide (c = "InvalidPlan")), PyData.bool (decide (c = "InvalidSeen")), PyData.bool (decide (c = "InvalidText")), PyData.bool (decide (c = "InvalidWord"))]), .un, .un, .un]) (s' := []) (by simp only [s_gAsg, s_eLstS, s_aCons, s_aNil, s_eOp, h, bind_ok]; rfl)]
  rw [kstep (ρ' := [L.d (opq a), L.d (PyData.list [PyData.bool (decide (c = "InvalidFrame")), PyData.bool (decide (c = "InvalidNumber")), PyData.bool (decide (c = "InvalidPlan")), PyData.bool (decide (c = "InvalidSeen")), PyData.bool (decide (c = "InvalidText")), PyData.bool (decide (c = "InvalidWord")), PyData.bool (decide (c = "NothingToUndo")), PyData.bool (decide (c = "TooMany")), PyData.bool true]), .un, .un, .un]) (s' := []) (by simp only [s_gAsg, s_eLstS, s_aCons, s_aNil, s_eOp, h, bind_ok]; rfl)]
  rcases (show c = "InvalidFrame" ∨ c = "InvalidNumber" ∨ c = "InvalidPlan" ∨ c = "InvalidSeen" ∨ c = "InvalidText" ∨ c = "InvalidWord" ∨ c = "NothingToUndo" ∨ c = "TooMany" by simpa [excs8] using hc) with rfl | rfl | rfl | rfl | rfl | rfl | rfl | rfl <;> kernel_rfl
theorem ok__law_kinds {G : GC} (T : Txt G) : FnK8 G 1 "_law_kinds" :=
  def_okK8 (k := 0) T.f__law_kinds sc__law_kinds rfl (fun _ _ _ _ _ _ us hl => match us, hl with | [_], _ => rfl) math__law_kinds fun y c dx F1 hc hz hxd cdv A outer s H E hot =>
  (psd_cons (psd_asg noPF (pd_lst (pad_cons (pd_isK8 T.k hc hz hxd List.mem_cons_self T.b_isinstance (pv 0)) (pad_cons (pd_isK8 T.k hc hz hxd List.mem_cons_self T.b_isinstance (pv 0)) (pad_cons (pd_isK8 T.k hc hz hxd List.mem_cons_self T.b_isinstance (pv 0)) pad_nil)))) (pgd_name (pg_name (i := 1) sc__law_kinds.nd rfl (by first | exact Or.inl rfl | exact Or.inr rfl))))
  (psd_cons (psd_asg noPF (pd_op or_addU od_add (pd_var (pv 1)) (pd_lst (pad_cons (pd_isK8 T.k hc hz hxd List.mem_cons_self T.b_isinstance (pv 0)) (pad_cons (pd_isK8 T.k hc hz hxd List.mem_cons_self T.b_isinstance (pv 0)) (pad_cons (pd_isK8 T.k hc hz hxd List.mem_cons_self T.b_isinstance (pv 0)) pad_nil))))) (pgd_name (pg_name (i := 1) sc__law_kinds.nd rfl (by first | exact Or.inl rfl | exact Or.inr rfl))))
  (psd_cons (psd_asg noPF (pd_op or_addU od_add (pd_var (pv 1)) (pd_lst (pad_cons (pd_isK8 T.k hc hz hxd List.mem_cons_self T.b_isinstance (pv 0)) (pad_cons (pd_isK8 T.k hc hz hxd List.mem_cons_self T.b_isinstance (pv 0)) (pad_cons (pd_isV8 T.k hc hz hxd List.mem_cons_self T.b_isinstance T.b_ValueError (pv 0)) pad_nil))))) (pgd_name (pg_name (i := 1) sc__law_kinds.nd rfl (by first | exact Or.inl rfl | exact Or.inr rfl))))
  (psd_cons (psd_asg noPF (pd_lst (pad_cons pd_str (pad_cons pd_str (pad_cons pd_str (pad_cons pd_str (pad_cons pd_str (pad_cons pd_str pad_nil))))))) (pgd_name (pg_name (i := 2) sc__law_kinds.nd rfl (by first | exact Or.inl rfl | exact Or.inr rfl))))
  (psd_cons (psd_asg noPF (pd_op or_addU od_add (pd_var (pv 2)) (pd_lst (pad_cons pd_str (pad_cons pd_str (pad_cons pd_str pad_nil))))) (pgd_name (pg_name (i := 2) sc__law_kinds.nd rfl (by first | exact Or.inl rfl | exact Or.inr rfl))))
  (psd_one (psd_ret noPF (pd_join pd_str (pd_lcX (own := [("word", 3), ("good", 4)]) ⟨y, hot, List.mem_cons_self⟩ sc__law_kinds.nd (pixd_zip rfl T.b_zip (pad_cons (pd_var (pv 2)) (pad_cons (pd_var (pv 1)) pad_nil))) (blkOk_by (N := N__law_kinds) (sc := defScope s__law_kinds) (by decide +kernel)) (fun _ _ _ _ _ hotB => (prd_tupX hotB.at (prds_cons (prd_name (pg_name (i := 3) sc__law_kinds.nd rfl (by first | exact Or.inl rfl | exact Or.inr rfl)) (show (3 : Nat) ∈ [3, 4] by decide) (show (3 : Nat) < N__law_kinds.length by decide)) (prds_cons (prd_name (pg_name (i := 4) sc__law_kinds.nd rfl (by first | exact Or.inl rfl | exact Or.inr rfl)) (show (4 : Nat) ∈ [3, 4] by decide) (show (4 : Nat) < N__law_kinds.length by decide)) prds_nil)))) (fun _ _ _ _ _ => (ptsd_one (ptd_val (pd_var (pv 4))))) (fun _ _ _ _ _ => (pd_var (pv 3))))))))))))
abbrev s__law_call : Stmt := topS 44
abbrev N__law_call : List Str := ["call_so", "found", "e"]
theorem sc__law_call : FnScope N__law_call ["call_so"] (defScope s__law_call) := ⟨rfl, rfl, rfl, by decide +kernel, rfl, by decide +kernel, by decide +kernel⟩
theorem ok__law_call {G : GC} (T : Txt G) (H__law_kinds : FnK8 G 1 "_law_kinds") : FnF G 31 30 0 "_law_call" 0 m__law_call :=
  def_okP (k := 30) T.f__law_call sc__law_call rfl (fun _ _ _ _ _ _ us hl => match us, hl with | [_], _ => rfl) fun Fc f m C cdv A outer s H F0 E ecd hs0 hr hx ho =>
  (psd_cons (psd_asg noPF pd_non (pgd_name (pg_name (i := 1) sc__law_call.nd rfl (by first | exact Or.inl rfl | exact Or.inr rfl))))
  (psd_cons (psd_tryK8 (i := 2) (j := 1) hs0 T.k rfl rfl sc__law_call.nd rfl rfl (by decide) (fun pn xe E hx ho => (psd_one (psd_asg noPF (pd_tup (pad_cons pd_str (pad_cons (pd_callF0 C hr (by decide) rfl (by first | exact Or.inl rfl | exact Or.inr rfl) hx) pad_nil))) (pgd_name (pg_name (i := 1) sc__law_call.nd rfl (by first | exact Or.inl rfl | exact Or.inr rfl))))))
    (fun a oe cls d pn hz hv => pss_suiteA8 (T.k.cls "TooMany" (by decide)) T.k.no1 hz hv (pe_kinds8 H__law_kinds (hr.mono (by decide)) hz hv (pv 2)) (pv 2) (pg_name (i := 1) sc__law_call.nd rfl (by first | exact Or.inl rfl | exact Or.inr rfl)))
    (fun a oe cls d pn hz hv => pss_suiteA8 (T.k.cls "InvalidText" (by decide)) T.k.no2 hz hv (pe_kinds8 H__law_kinds (hr.mono (by decide)) hz hv (pv 2)) (pv 2) (pg_name (i := 1) sc__law_call.nd rfl (by first | exact Or.inl rfl | exact Or.inr rfl)))
    (fun a oe cls d pn hz hv => pss_suiteK8 (pe_kinds8 H__law_kinds (hr.mono (by decide)) hz hv (pv 2)) (pg_name (i := 1) sc__law_call.nd rfl (by first | exact Or.inl rfl | exact Or.inr rfl))))
  (psd_one (psd_ret noPF (pd_var (pv 1))))))
abbrev s__law_lines : Stmt := topS 45
abbrev N__law_lines : List Str := ["plot", "found", "row", "words", "deed", "end", "far"]
theorem sc__law_lines : FnScope N__law_lines ["plot"] (defScope s__law_lines) := ⟨rfl, rfl, rfl, by decide +kernel, rfl, by decide +kernel, by decide +kernel⟩
theorem ok__law_lines {G : GC} (T : Txt G) : FnG G 1 "_law_lines" 1 m__law_lines :=
  def_okG (k := 0) T.f__law_lines sc__law_lines rfl (fun _ _ _ _ _ _ us hl => match us, hl with | [_], _ => rfl) fun cdv A outer s H F0 E ecd hr hx ho =>
  (psd_cons (psd_asgL noP pad_nil (pg_name (i := 1) sc__law_lines.nd rfl (by first | exact Or.inl rfl | exact Or.inr rfl)))
  (psd_cons (psd_for noP ho rfl (pid_seq (pd_ix (pd_var (pv 0)) pd_int)) (pgd_name (pg_name (i := 2) sc__law_lines.nd rfl (by first | exact Or.inl rfl | exact Or.inr rfl)))
  (psd_cons (psd_setLc noP rfl sc__law_lines.nd (i := 3) rfl rfl rfl rfl (by decide +kernel) (own := [("deed", 4)]) (pid_seq (pd_var (pv 2))) (blkOk_by (N := N__law_lines) (sc := defScope s__law_lines) (by decide +kernel)) (fun _ _ _ _ _ => (prd_name (pg_name (i := 4) sc__law_lines.nd rfl (by first | exact Or.inl rfl | exact Or.inr rfl)) (show (4 : Nat) ∈ [4] by decide) (show (4 : Nat) < N__law_lines.length by decide))) (fun _ _ _ _ _ => ptsd_nil) (fun _ _ _ _ _ => (pd_if (ptd_cmp op_isN od_is (pd_var (pv 4)) pd_non (nomark _)) pd_str (pd_op or_addU od_add (pd_op or_addU od_add (pd_strc T.b_str (pad_cons (pd_ix (pd_var (pv 4)) pd_int) pad_nil)) pd_str) (pd_strc T.b_str (pad_cons (pd_ix (pd_var (pv 4)) pd_int) pad_nil))))))
  (psd_one (psd_appG noP (pv 1) (pd_op or_addU od_add pd_str (pd_join pd_str (pd_var (pv 3)))) (pe_bm PySem.F.plainAttrs_list PySem.F.slot_list_append PySem.F.type_list_append mt_append (pv 1) (pa_cons (pd_op or_addU od_add pd_str (pd_join pd_str (pd_var (pv 3)))) pa_nil))))))
  (psd_one (psd_ret noP (pd_op or_addU od_add (pd_var (pv 1)) (pd_lc (own := [("end", 5), ("far", 6)]) rfl sc__law_lines.nd (pid_seq (pd_ix (pd_var (pv 0)) pd_int)) (blkOk_by (N := N__law_lines) (sc := defScope s__law_lines) (by decide +kernel)) (fun _ _ _ _ _ => (prd_tup rfl (prds_cons (prd_name (pg_name (i := 5) sc__law_lines.nd rfl (by first | exact Or.inl rfl | exact Or.inr rfl)) (show (5 : Nat) ∈ [5, 6] by decide) (show (5 : Nat) < N__law_lines.length by decide)) (prds_cons (prd_name (pg_name (i := 6) sc__law_lines.nd rfl (by first | exact Or.inl rfl | exact Or.inr rfl)) (show (6 : Nat) ∈ [5, 6] by decide) (show (6 : Nat) < N__law_lines.length by decide)) prds_nil)))) (fun _ _ _ _ _ => ptsd_nil) (fun _ _ _ _ _ => (pd_op or_addU od_add (pd_op or_addU od_add (pd_op or_addU od_add pd_str (pd_var (pv 5))) pd_str) (pd_strc T.b_str (pad_cons (pd_var (pv 6)) pad_nil))))))))))
abbrev s__law_deed_in : Stmt := topS 46
abbrev N__law_deed_in : List Str := ["word", "step", "row"]
theorem sc__law_deed_in : FnScope N__law_deed_in ["word"] (defScope s__law_deed_in) := ⟨rfl, rfl, rfl, by decide +kernel, rfl, by decide +kernel, by decide +kernel⟩
theorem ok__law_deed_in {G : GC} (T : Txt G) : FnG G 1 "_law_deed_in" 1 m__law_deed_in :=
  def_okG (k := 0) T.f__law_deed_in sc__law_deed_in rfl (fun _ _ _ _ _ _ us hl => match us, hl with | [_], _ => rfl) fun cdv A outer s H F0 E ecd hr hx ho =>
  (psd_cons (psd_if noP (ptd_cmp (or_eqP (room64 hr)) od_eq (pd_var (pv 0)) pd_str (nomark _)) (psd_one (psd_ret noP pd_non)) psd_nil)
  (psd_cons (psd_for noP ho rfl (pid_seq (pd_tup (pad_cons (pd_un un_neg ud_neg pd_int) (pad_cons (pd_un un_neg ud_neg pd_int) (pad_cons pd_int (pad_cons pd_int (pad_cons pd_int pad_nil))))))) (pgd_name (pg_name (i := 1) sc__law_deed_in.nd rfl (by first | exact Or.inl rfl | exact Or.inr rfl)))
  (psd_one (psd_for noP ho rfl (pid_range1 (by rfl) T.b_range (pad_cons pd_int pad_nil)) (pgd_name (pg_name (i := 2) sc__law_deed_in.nd rfl (by first | exact Or.inl rfl | exact Or.inr rfl)))
  (psd_one (psd_if noP (ptd_cmp (or_eqP (room64 hr)) od_eq (pd_var (pv 0)) (pd_op or_addU od_add (pd_op or_addU od_add (pd_strc T.b_str (pad_cons (pd_var (pv 1)) pad_nil)) pd_str) (pd_strc T.b_str (pad_cons (pd_var (pv 2)) pad_nil))) (nomark _)) (psd_one (psd_ret noP (pd_tup (pad_cons (pd_var (pv 1)) (pad_cons (pd_var (pv 2)) pad_nil))))) psd_nil)))))
  (psd_one (psd_ret noP pd_str))))
abbrev s__law_line_in : Stmt := topS 47
abbrev N__law_line_in : List Str := ["text", "words", "row", "word"]
theorem sc__law_line_in : FnScope N__law_line_in ["text"] (defScope s__law_line_in) := ⟨rfl, rfl, rfl, by decide +kernel, rfl, by decide +kernel, by decide +kernel⟩
theorem ok__law_line_in {G : GC} (T : Txt G) (H__law_deed_in : FnG G 1 "_law_deed_in" 1 m__law_deed_in) : FnG G 2 "_law_line_in" 1 m__law_line_in :=
  def_okG (k := 1) T.f__law_line_in sc__law_line_in rfl (fun _ _ _ _ _ _ us hl => match us, hl with | [_], _ => rfl) fun cdv A outer s H F0 E ecd hr hx ho =>
  (psd_cons (psd_asg noP (pd_split (pd_var (pv 0)) pd_str) (pgd_name (pg_name (i := 1) sc__law_line_in.nd rfl (by first | exact Or.inl rfl | exact Or.inr rfl))))
  (psd_cons (psd_if noP (ptd_w (pwd_and (ptd_cmp (or_eqP (room64 hr)) od_eq (pd_ix (pd_var (pv 1)) pd_int) pd_str (nomark _)) (pwd_and1 (ptd_cmp (or_eqP (room64 hr)) od_eq (pd_len T.b_len (pad_cons (pd_var (pv 1)) pad_nil)) pd_int (nomark _))))) (psd_cons (psd_asg noP (pd_tuplec T.b_tuple (pad_cons (pd_lc (own := [("word", 3)]) rfl sc__law_line_in.nd (pid_seq (pd_sl (pd_var (pv 1)) (pod_some pd_int) pod_none)) (blkOk_by (N := N__law_line_in) (sc := defScope s__law_line_in) (by decide +kernel)) (fun _ _ _ _ _ => (prd_name (pg_name (i := 3) sc__law_line_in.nd rfl (by first | exact Or.inl rfl | exact Or.inr rfl)) (show (3 : Nat) ∈ [3] by decide) (show (3 : Nat) < N__law_line_in.length by decide))) (fun _ _ _ _ _ => ptsd_nil) (fun _ _ _ _ _ => (pd_callG H__law_deed_in hr (by decide) passN (pad_cons (pd_var (pv 3)) pad_nil) (aCons_len aNil_len)))) pad_nil)) (pgd_name (pg_name (i := 2) sc__law_line_in.nd rfl (by first | exact Or.inl rfl | exact Or.inr rfl))))
  (psd_one (psd_ret noP (pd_if (ptd_cmp (or_inP (room66 hr)) od_in pd_str (pd_var (pv 2)) (by rfl)) pd_non (pd_tup (pad_cons pd_str (pad_cons (pd_var (pv 2)) pad_nil))))))) psd_nil)
  (psd_cons (psd_if noP (ptd_w (pwd_or (ptd_cmp (or_neP (room64 hr)) od_ne (pd_ix (pd_var (pv 1)) pd_int) pd_str (nomark _)) (pwd_or (ptd_cmp (or_neP (room64 hr)) od_ne (pd_len T.b_len (pad_cons (pd_var (pv 1)) pad_nil)) pd_int (nomark _)) (pwd_or1 (ptd_cmp (or_notInP (room66 hr)) od_notIn (pd_ix (pd_var (pv 1)) pd_int) (pd_lst (pad_cons pd_str (pad_cons pd_str pad_nil))) (by rfl)))))) (psd_one (psd_ret noP pd_non)) psd_nil)
  (psd_one (psd_ret noP (pd_if (ptd_cmp (or_inP (room66 hr)) od_in (pd_ix (pd_var (pv 1)) pd_int) (pd_lst (pad_cons pd_str (pad_cons pd_str (pad_cons pd_str (pad_cons pd_str pad_nil))))) (by rfl)) (pd_tup (pad_cons pd_str (pad_cons (pd_tup (pad_cons (pd_ix (pd_var (pv 1)) pd_int) (pad_cons (pd_intS T.b_int (pad_cons (pd_ix (pd_var (pv 1)) pd_int) pad_nil)) pad_nil))) pad_nil))) pd_non))))))
abbrev s__law_due : Stmt := topS 48
abbrev N__law_due : List Str := ["string", "rows", "names", "parts", "text", "pair", "name"]
theorem sc__law_due : FnScope N__law_due ["string"] (defScope s__law_due) := ⟨rfl, rfl, rfl, by decide +kernel, rfl, by decide +kernel, by decide +kernel⟩
theorem ok__law_due {G : GC} (T : Txt G) (H__law_is_plot : FnG G 4 "_law_is_plot" 1 m__law_is_plot) (H__law_line_in : FnG G 2 "_law_line_in" 1 m__law_line_in) : FnG G 5 "_law_due" 1 m__law_due :=
  def_okG (k := 4) T.f__law_due sc__law_due rfl (fun _ _ _ _ _ _ us hl => match us, hl with | [_], _ => rfl) fun cdv A outer s H F0 E ecd hr hx ho =>
  (psd_cons (psd_asg noP (pd_lc (own := [("text", 4)]) rfl sc__law_due.nd (pid_seq (pd_split (pd_var (pv 0)) pd_str)) (blkOk_by (N := N__law_due) (sc := defScope s__law_due) (by decide +kernel)) (fun _ _ _ _ _ => (prd_name (pg_name (i := 4) sc__law_due.nd rfl (by first | exact Or.inl rfl | exact Or.inr rfl)) (show (4 : Nat) ∈ [4] by decide) (show (4 : Nat) < N__law_due.length by decide))) (fun _ _ _ _ _ => ptsd_nil) (fun _ _ _ _ _ => (pd_callG H__law_line_in hr (by decide) passN (pad_cons (pd_var (pv 4)) pad_nil) (aCons_len aNil_len)))) (pgd_name (pg_name (i := 1) sc__law_due.nd rfl (by first | exact Or.inl rfl | exact Or.inr rfl))))
  (psd_cons (psd_if noP (ptd_cmp (or_inP (room66 hr)) od_in pd_non (pd_var (pv 1)) (by rfl)) (psd_one (psd_ret noP (pd_op or_addU od_add (pd_m1L PySem.F.slot_list_index PySem.F.type_list_index (mt_index (room66 hr)) (fun _ _ _ => index_num) (pd_var (pv 1)) pd_non) pd_int))) psd_nil)
  (psd_cons (psd_setLc noP rfl sc__law_due.nd (i := 2) rfl rfl rfl rfl (by decide +kernel) (own := [("pair", 5)]) (pid_seq (pd_var (pv 1))) (blkOk_by (N := N__law_due) (sc := defScope s__law_due) (by decide +kernel)) (fun _ _ _ _ _ => (prd_name (pg_name (i := 5) sc__law_due.nd rfl (by first | exact Or.inl rfl | exact Or.inr rfl)) (show (5 : Nat) ∈ [5] by decide) (show (5 : Nat) < N__law_due.length by decide))) (fun _ _ _ _ _ => ptsd_nil) (fun _ _ _ _ _ => (pd_ix (pd_var (pv 5)) pd_int)))
  (psd_cons (psd_if noP (ptd_cmp (or_neP (room64 hr)) od_ne (pd_var (pv 2)) (pd_op or_addU od_add (pd_litMul (pad_cons pd_str pad_nil) (pd_m1L PySem.F.slot_list_count PySem.F.type_list_count (mt_count (room66 hr)) (fun _ _ _ => count_num) (pd_var (pv 2)) pd_str)) (pd_litMul (pad_cons pd_str pad_nil) (pd_m1L PySem.F.slot_list_count PySem.F.type_list_count (mt_count (room66 hr)) (fun _ _ _ => count_num) (pd_var (pv 2)) pd_str))) (nomark _)) (psd_one (psd_ret noP (pd_op or_addU od_add (pd_len T.b_len (pad_cons (pd_var (pv 1)) pad_nil)) pd_int))) psd_nil)
  (psd_cons (psd_setLc noP rfl sc__law_due.nd (i := 3) rfl rfl rfl rfl (by decide +kernel) (own := [("name", 6)]) (pid_seq (pd_tup (pad_cons pd_str (pad_cons pd_str pad_nil)))) (blkOk_by (N := N__law_due) (sc := defScope s__law_due) (by decide +kernel)) (fun _ _ _ _ _ => (prd_name (pg_name (i := 6) sc__law_due.nd rfl (by first | exact Or.inl rfl | exact Or.inr rfl)) (show (6 : Nat) ∈ [6] by decide) (show (6 : Nat) < N__law_due.length by decide))) (fun _ _ _ _ _ => ptsd_nil) (fun _ _ _ _ _ => (pd_tuplec T.b_tuple (pad_cons (pd_lc (own := [("pair", 5)]) rfl sc__law_due.nd (pid_seq (pd_var (pv 1))) (blkOk_in (N := N__law_due) (by decide +kernel)) (fun _ _ _ _ _ => (prd_name (pg_name (i := 5) sc__law_due.nd rfl (by first | exact Or.inl rfl | exact Or.inr rfl)) (show (5 : Nat) ∈ [5] by decide) (show (5 : Nat) < N__law_due.length by decide))) (fun _ _ _ _ _ => (ptsd_one (ptd_cmp (or_eqP (room64 hr)) od_eq (pd_ix (pd_var (pv 5)) pd_int) (pd_var (pv 6)) (nomark _)))) (fun _ _ _ _ _ => (pd_ix (pd_var (pv 5)) pd_int))) pad_nil))))
  (psd_one (psd_ret noP (pd_if (ptd_val (pd_callG H__law_is_plot hr (by decide) hx (pad_cons (pd_tuplec T.b_tuple (pad_cons (pd_var (pv 3)) pad_nil)) pad_nil) (aCons_len aNil_len))) pd_non (pd_op or_addU od_add (pd_len T.b_len (pad_cons (pd_var (pv 1)) pad_nil)) pd_int)))))))))
abbrev s__law_bent : Stmt := topS 49
abbrev N__law_bent : List Str := ["spool", "string", "lines", "spot", "way", "here", "some", "turned_so"]
theorem sc__law_bent : FnScope N__law_bent ["spool", "string"] (defScope s__law_bent) := ⟨rfl, rfl, rfl, by decide +kernel, rfl, by decide +kernel, by decide +kernel⟩
theorem ok__law_bent {G : GC} (T : Txt G) (H__law_any : FnS G 2 "_law_any" 2 m__law_any) (H__law_wind : FnS G 1 "_law_wind" 2 m__law_wind) : FnS G 3 "_law_bent" 2 m__law_bent :=
  def_okS (k := 2) T.f__law_bent sc__law_bent rfl (fun _ _ _ _ _ _ us hl => match us, hl with | [_, _], _ => rfl) fun cdv A outer s H F0 E a hp ecd hr hx ho =>
  (psd_cons (psd_par2 hp rfl sc__law_bent.nd (i := 2) (j := 3) rfl rfl (by decide) rfl rfl (pai_d (pd_split (pd_var (pv 1)) pd_str) (pai_d (pd_callS H__law_wind hr (by decide) hx (pad_cons (pd_var (pv 0)) (pad_cons (pd_op or_addU od_add (pd_len T.b_len (pad_cons (pd_var (pv 1)) pad_nil)) pd_int) pad_nil)) (aCons_len (aCons_len aNil_len))) pai_nil)) rfl)
  (psd_cons (psd_par2 hp rfl sc__law_bent.nd (i := 4) (j := 5) rfl rfl (by decide) rfl rfl (pai_d (pd_callS H__law_wind hr (by decide) hx (pad_cons (pd_var (pv 0)) (pad_cons pd_int pad_nil)) (aCons_len (aCons_len aNil_len))) (pai_d (pd_callS H__law_wind hr (by decide) hx (pad_cons (pd_var (pv 0)) (pad_cons (pd_len T.b_len (pad_cons (pd_var (pv 2)) pad_nil)) pad_nil)) (aCons_len (aCons_len aNil_len))) pai_nil)) rfl)
  (psd_cons (psd_asg hp (pd_lst (pad_cons pd_str (pad_cons pd_str (pad_cons pd_str (pad_cons pd_str (pad_cons pd_str pad_nil)))))) (pgd_name (pg_name (i := 6) sc__law_bent.nd rfl (by first | exact Or.inl rfl | exact Or.inr rfl))))
  (psd_cons (psd_asg hp (pd_op or_addU od_add (pd_var (pv 6)) (pd_lst (pad_cons pd_str (pad_cons pd_str (pad_cons pd_str pad_nil))))) (pgd_name (pg_name (i := 6) sc__law_bent.nd rfl (by first | exact Or.inl rfl | exact Or.inr rfl))))
  (psd_cons (psd_asg hp (pd_op or_addU od_add (pd_var (pv 6)) (pd_lst (pad_cons pd_str (pad_cons pd_str (pad_cons pd_str (pad_cons pd_str (pad_cons pd_str pad_nil))))))) (pgd_name (pg_name (i := 6) sc__law_bent.nd rfl (by first | exact Or.inl rfl | exact Or.inr rfl))))
  (psd_cons (psd_if hp (ptd_cmp (or_eqP (room64 hr)) od_eq (pd_var (pv 4)) pd_int (nomark _)) (psd_one (psd_ret hp (pd_op or_addU od_add (pd_op or_addU od_add (pd_sl (pd_var (pv 1)) pod_none (pod_some (pd_var (pv 3)))) (pd_callS H__law_any hr (by decide) hx (pad_cons (pd_var (pv 0)) (pad_cons (pd_lst (pad_cons pd_str (pad_cons pd_str (pad_cons pd_str (pad_cons pd_str (pad_cons pd_str (pad_cons pd_str pad_nil))))))) pad_nil)) (aCons_len (aCons_len aNil_len)))) (pd_sl (pd_var (pv 1)) (pod_some (pd_var (pv 3))) pod_none)))) psd_nil)
  (psd_cons (psd_if hp (ptd_cmp (or_eqP (room64 hr)) od_eq (pd_var (pv 4)) pd_int (nomark _)) (psd_one (psd_ret hp (pd_op or_addU od_add (pd_sl (pd_var (pv 1)) pod_none (pod_some (pd_var (pv 3)))) (pd_sl (pd_var (pv 1)) (pod_some (pd_op or_addU od_add (pd_var (pv 3)) pd_int)) pod_none)))) psd_nil)
  (psd_cons (psd_if hp (ptd_cmp (or_eqP (room64 hr)) od_eq (pd_var (pv 4)) pd_int (nomark _)) (psd_one (psd_ret hp (pd_join pd_str (pd_op or_addU od_add (pd_op or_addU od_add (pd_sl (pd_var (pv 2)) pod_none (pod_some (pd_var (pv 5)))) (pd_lst (pad_cons (pd_callS H__law_any hr (by decide) hx (pad_cons (pd_var (pv 0)) (pad_cons (pd_var (pv 6)) pad_nil)) (aCons_len (aCons_len aNil_len))) pad_nil))) (pd_sl (pd_var (pv 2)) (pod_some (pd_var (pv 5))) pod_none))))) psd_nil)
  (psd_cons (psd_if hp (ptd_cmp (or_eqP (room64 hr)) od_eq (pd_var (pv 4)) pd_int (nomark _)) (psd_one (psd_ret hp (pd_join pd_str (pd_op or_addU od_add (pd_op or_addU od_add (pd_sl (pd_var (pv 2)) pod_none (pod_some (pd_var (pv 5)))) (pd_lst (pad_cons (pd_callS H__law_any hr (by decide) hx (pad_cons (pd_var (pv 0)) (pad_cons (pd_var (pv 6)) pad_nil)) (aCons_len (aCons_len aNil_len))) pad_nil))) (pd_sl (pd_var (pv 2)) (pod_some (pd_op or_addU od_add (pd_var (pv 5)) pd_int)) pod_none))))) psd_nil)
  (psd_cons (psd_if hp (ptd_cmp (or_eqP (room64 hr)) od_eq (pd_var (pv 4)) pd_int (nomark _)) (psd_one (psd_ret hp (pd_join pd_str (pd_op or_addU od_add (pd_sl (pd_var (pv 2)) pod_none (pod_some (pd_var (pv 5)))) (pd_sl (pd_var (pv 2)) (pod_some (pd_op or_addU od_add (pd_var (pv 5)) pd_int)) pod_none))))) psd_nil)
  (psd_cons (psd_if hp (ptd_cmp (or_eqP (room64 hr)) od_eq (pd_var (pv 4)) pd_int (nomark _)) (psd_cons (psd_asg hp (pd_revL (pd_sl (pd_var (pv 2)) (pod_some (pd_var (pv 5))) (pod_some (pd_op or_addU od_add (pd_var (pv 5)) pd_int)))) (pgd_name (pg_name (i := 7) sc__law_bent.nd rfl (by first | exact Or.inl rfl | exact Or.inr rfl))))
  (psd_one (psd_ret hp (pd_join pd_str (pd_op or_addU od_add (pd_op or_addU od_add (pd_sl (pd_var (pv 2)) pod_none (pod_some (pd_var (pv 5)))) (pd_var (pv 7))) (pd_sl (pd_var (pv 2)) (pod_some (pd_op or_addU od_add (pd_var (pv 5)) pd_int)) pod_none)))))) psd_nil)
  (psd_one (psd_ret hp (pd_join pd_str (pd_op or_addU od_add (pd_var (pv 2)) (pd_sl (pd_var (pv 2)) (pod_some (pd_var (pv 5))) pod_none))))))))))))))))
abbrev s_law : Stmt := topS 50
abbrev N_law : List Str := ["script", "k", "rows", "string", "number", "spool", "turn", "bad", "change", "due", "found"]
theorem sc_law : FnScope N_law ["script"] (defScope s_law) := ⟨rfl, rfl, rfl, by decide +kernel, rfl, by decide +kernel, by decide +kernel⟩
theorem ok_law {G : GC} (T : Txt G) {fd : FuncData} (FD : FunD G.K "law" "law" (defArgs s_law) (defBody s_law) (defScope s_law) [] [] (He.ga G.K "law") fd) (H__law_spool : FnN G 1 "_law_spool" 2 m__law_spool) (H__law_call : FnF G 31 30 0 "_law_call" 0 m__law_call) (H_read_plan : FnG G 6 "read_plan" 1 m_read_plan) (H_plan_text : FnG G 6 "plan_text" 1 m_plan_text) (H__law_due : FnG G 5 "_law_due" 1 m__law_due) (H__law_wind : FnS G 1 "_law_wind" 2 m__law_wind) (H__law_bent : FnS G 3 "_law_bent" 2 m__law_bent) (H__law_plot : FnS G 5 "_law_plot" 1 m__law_plot) (H__law_lines : FnG G 1 "_law_lines" 1 m__law_lines) : FnOk G.P G.w G.K G.mg G.base (L2N.CX G.P G.w) 32 (He.ga G.K "law") fd ["script"] (spD G 1 m_law) :=
  def_okF (k := 31) FD sc_law rfl fun cdv A outer s H F0 E ecd hr hx ho =>
  (psd_cons (psd_for noP ho rfl (pid_range1 (by rfl) T.b_range (pad_cons (pd_max T.b_max rfl (pad_cons pd_int (pad_cons (pd_min T.b_min rfl (pad_cons pd_int (pad_cons (pd_len T.b_len (pad_cons (pd_var (pv 0)) pad_nil)) pad_nil))) pad_nil))) pad_nil)) (pgd_name (pg_name (i := 1) sc_law.nd rfl (by first | exact Or.inl rfl | exact Or.inr rfl))) (psd_spool (j := 5) (kk := k_law) (gr := g_law_rest) H__law_spool hr (by decide) hx (pad_cons (pd_var (pv 0)) (pad_cons (pd_var (pv 1)) pad_nil)) (aCons_len (aCons_len aNil_len)) (pg_name (i := 5) sc_law.nd rfl (by first | exact Or.inl rfl | exact Or.inr rfl)) (fun a F0 H0 hp =>
  (psd_cons (psd_for hp ho rfl (pid_range1 (by rfl) T.b_range (pad_cons pd_int pad_nil)) (pgd_name (pg_name (i := 6) sc_law.nd rfl (by first | exact Or.inl rfl | exact Or.inr rfl)))
  (psd_cons (psd_asg hp (pd_join pd_str (pd_callG H__law_lines hr (by decide) hx (pad_cons (pd_callS H__law_plot hr (by decide) hx (pad_cons (pd_var (pv 5)) pad_nil) (aCons_len aNil_len)) pad_nil) (aCons_len aNil_len))) (pgd_name (pg_name (i := 3) sc_law.nd rfl (by first | exact Or.inl rfl | exact Or.inr rfl))))
  (psd_cons (psd_for hp ho rfl (pid_range1 (by rfl) T.b_range (pad_cons (pd_op or_addU od_add pd_int (pd_callS H__law_wind hr (by decide) hx (pad_cons (pd_var (pv 5)) (pad_cons pd_int pad_nil)) (aCons_len (aCons_len aNil_len)))) pad_nil)) (pgd_name (pg_name (i := 8) sc_law.nd rfl (by first | exact Or.inl rfl | exact Or.inr rfl)))
  (psd_one (psd_asg hp (pd_callS H__law_bent hr (by decide) hx (pad_cons (pd_var (pv 5)) (pad_cons (pd_var (pv 3)) pad_nil)) (aCons_len (aCons_len aNil_len))) (pgd_name (pg_name (i := 3) sc_law.nd rfl (by first | exact Or.inl rfl | exact Or.inr rfl))))))
  (psd_cons (psd_par2 hp rfl sc_law.nd (i := 9) (j := 10) rfl rfl (by decide) rfl rfl (pai_d (pd_callG H__law_due hr (by decide) hx (pad_cons (pd_var (pv 3)) pad_nil) (aCons_len aNil_len)) (pai_d (pd_callLam (N := ["string"]) (ps := []) (fr := ["string"]) H__law_call hr (by decide) hx (pal_lam (T.t_law.tab ecd rfl) rfl (cells_by (free_by (o := defScope s_law) (by decide +kernel)))) aNil_len (NdefX.nscope_by (by decide +kernel)) rfl (fun _ _ _ _ us hl => match us, hl with | [], _ => rfl) (fun F hF => by obtain ⟨_, _, _, _, _, _, _⟩ := F; cases hF; exact fun f A outer s H E hr => (pd_callG H_read_plan hr (by decide) passLam (pad_cons (pd_var (pv 0)) pad_nil) (aCons_len aNil_len))) (fun _ => rfl) (free_by (o := defScope s_law) (by decide +kernel)) (fre_by (by decide +kernel)) rfl) pai_nil)) rfl)
  (psd_one (psd_if hp (ptd_cmp op_isN od_is (pd_var (pv 9)) pd_non (nomark _)) (psd_one (psd_if hp (ptd_w (pwd_or (ptd_cmp (or_neP (room64 hr)) od_ne (pd_ix (pd_var (pv 10)) pd_int) pd_str (nomark _)) (pwd_or1 (ptd_cmp (or_neP (room64 hr)) od_ne (pd_callG H_plan_text hr (by decide) hx (pad_cons (pd_ix (pd_var (pv 10)) pd_int) pad_nil) (aCons_len aNil_len)) (pd_var (pv 3)) (nomark _))))) (psd_one (psd_ret hp pd_bl)) psd_nil)) (psd_one (psd_if hp (ptd_cmp (or_neP (room64 hr)) od_ne (pd_var (pv 10)) (pd_tup (pad_cons pd_str (pad_cons (pd_var (pv 9)) pad_nil))) (nomark _)) (psd_one (psd_ret hp pd_bl)) psd_nil))))))))
  (psd_one (psd_for hp ho rfl (pid_seq (pd_lst (pad_cons pd_non (pad_cons pd_int (pad_cons (pd_lst (pad_cons pd_str pad_nil)) (pad_cons (pd_tup (pad_cons pd_str pad_nil)) (pad_cons pd_bl pad_nil))))))) (pgd_name (pg_name (i := 7) sc_law.nd rfl (by first | exact Or.inl rfl | exact Or.inr rfl)))
  (psd_one (psd_if hp (ptd_cmp (or_neP (room64 hr)) od_ne (pd_callLam (N := ["bad"]) (ps := []) (fr := ["bad"]) H__law_call hr (by decide) hx (pal_lam (T.t_law.tab ecd rfl) rfl (cells_by (free_by (o := defScope s_law) (by decide +kernel)))) aNil_len (NdefX.nscope_by (by decide +kernel)) rfl (fun _ _ _ _ us hl => match us, hl with | [], _ => rfl) (fun F hF => by obtain ⟨_, _, _, _, _, _, _⟩ := F; cases hF; exact fun f A outer s H E hr => (pd_callG H_read_plan hr (by decide) passLam (pad_cons (pd_var (pv 0)) pad_nil) (aCons_len aNil_len))) (fun _ => rfl) (free_by (o := defScope s_law) (by decide +kernel)) (fre_by (by decide +kernel)) rfl) (pd_tup (pad_cons pd_str (pad_cons pd_int pad_nil))) (nomark _)) (psd_one (psd_ret hp pd_bl)) psd_nil))))))))
  (psd_cons (psd_asg noP (pd_lst (pad_cons (pd_tup (pad_cons pd_str (pad_cons pd_int pad_nil))) (pad_cons (pd_tup (pad_cons pd_str (pad_cons pd_int pad_nil))) (pad_cons (pd_tup (pad_cons pd_str (pad_cons pd_int pad_nil))) (pad_cons (pd_tup (pad_cons pd_str (pad_cons pd_int pad_nil))) pad_nil))))) (pgd_name (pg_name (i := 2) sc_law.nd rfl (by first | exact Or.inl rfl | exact Or.inr rfl))))
  (psd_cons (psd_asg noP (pd_op or_addU od_add (pd_var (pv 2)) (pd_lst (pad_cons (pd_tup (pad_cons pd_str (pad_cons pd_int pad_nil))) pad_nil))) (pgd_name (pg_name (i := 2) sc_law.nd rfl (by first | exact Or.inl rfl | exact Or.inr rfl))))
  (psd_cons (psd_for noP ho rfl (pid_seq (pd_op or_addU od_add (pd_var (pv 2)) (pd_lst (pad_cons (pd_tup (pad_cons pd_str (pad_cons pd_int pad_nil))) (pad_cons (pd_tup (pad_cons pd_str (pad_cons pd_int pad_nil))) pad_nil))))) (pgd_tup rfl (pgsd_cons (pgd_name (pg_name (i := 3) sc_law.nd rfl (by first | exact Or.inl rfl | exact Or.inr rfl))) (pgsd_cons (pgd_name (pg_name (i := 4) sc_law.nd rfl (by first | exact Or.inl rfl | exact Or.inr rfl))) pgsd_nil)))
  (psd_one (psd_if noP (ptd_cmp (or_neP (room64 hr)) od_ne (pd_callLam (N := ["string"]) (ps := []) (fr := ["string"]) H__law_call hr (by decide) hx (pal_lam (T.t_law.tab ecd rfl) rfl (cells_by (free_by (o := defScope s_law) (by decide +kernel)))) aNil_len (NdefX.nscope_by (by decide +kernel)) rfl (fun _ _ _ _ us hl => match us, hl with | [], _ => rfl) (fun F hF => by obtain ⟨_, _, _, _, _, _, _⟩ := F; cases hF; exact fun f A outer s H E hr => (pd_callG H_read_plan hr (by decide) passLam (pad_cons (pd_var (pv 0)) pad_nil) (aCons_len aNil_len))) (fun _ => rfl) (free_by (o := defScope s_law) (by decide +kernel)) (fre_by (by decide +kernel)) rfl) (pd_tup (pad_cons pd_str (pad_cons (pd_var (pv 4)) pad_nil))) (nomark _)) (psd_one (psd_ret noP pd_bl)) psd_nil)))
  (psd_one (psd_ret noP pd_bl))))))
end Lw
end

section
set_option Elab.async false
set_option linter.all false
set_option maxRecDepth 100000
set_option maxHeartbeats 0
namespace Lw
open PySem PySem.Spec PyProof.Rows L2 DL
def dfn (i : Nat) (x : Str) : He.DefD := ⟨(x, none), x, x, defArgs (topS i), defBody (topS i), defScope (topS i), [], []⟩
def dfi (i j : Nat) (x : Str) : He.DefD := ⟨(x, some "__init__"), "__init__", x ++ ".__init__", defArgs (clsAt (topS i) j), defBody (clsAt (topS i) j), defScope (clsAt (topS i) j), [], []⟩
def fn_0 : List He.DefD := [dfi 9 0 "InvalidText", dfn 15 "is_int", dfn 16 "is_action", dfn 17 "is_line", dfn 18 "is_notch", dfn 19 "is_plan", dfn 20 "need_plan", dfn 24 "word_of", dfn 25 "text_of", dfn 26 "action_in", dfn 27 "line_in", dfn 28 "read_so", dfn 29 "plan_text", dfn 30 "read_plan", dfn 32 "_law_spool", dfn 33 "_law_wind"]
def fn_1 : List He.DefD := [dfn 34 "_law_any", dfn 35 "_law_deed", dfn 36 "_law_row", dfn 37 "_law_plot", dfn 38 "_law_is_whole", dfn 39 "_law_is_deed", dfn 40 "_law_is_row", dfn 41 "_law_is_mark", dfn 42 "_law_is_plot", dfn 43 "_law_kinds", dfn 44 "_law_call", dfn 45 "_law_lines", dfn 46 "_law_deed_in", dfn 47 "_law_line_in", dfn 48 "_law_due", dfn 49 "_law_bent"]
def fn_2 : List He.DefD := [dfn 50 "law"]
def fn_ : List He.DefD := fn_0 ++ (fn_1 ++ (fn_2))
def fa_0 : List He.Fa := [.glo "InvalidText", .glo "is_int", .glo "is_action", .glo "is_line", .glo "is_notch", .glo "is_plan", .glo "need_plan", .glo "word_of", .glo "text_of", .glo "action_in", .glo "line_in", .glo "read_so", .glo "plan_text", .glo "read_plan", .glo "_law_spool", .glo "_law_wind"]
def fa_1 : List He.Fa := [.glo "_law_any", .glo "_law_deed", .glo "_law_row", .glo "_law_plot", .glo "_law_is_whole", .glo "_law_is_deed", .glo "_law_is_row", .glo "_law_is_mark", .glo "_law_is_plot", .glo "_law_kinds", .glo "_law_call", .glo "_law_lines", .glo "_law_deed_in", .glo "_law_line_in", .glo "_law_due", .glo "_law_bent"]
def fa_2 : List He.Fa := [.glo "law", .free "isinstance", .free "bool", .free "int", .free "len", .free "tuple", .free "all", .free "str", .free "zip", .free "abs", .free "sorted", .free "set", .free "range", .free "list", .free "ValueError", .free "max"]
def fa_3 : List He.Fa := [.free "min", .int "MOST_STEP" 2, .int "MOST_FAR" 4, .int "MOST_NOTCHES" 2, .int "MOST_LINES" 4, .glo "InvalidPlan", .exc "InvalidPlan", .glo "InvalidFrame", .glo "InvalidNumber", .glo "InvalidPlan", .glo "InvalidSeen", .glo "InvalidText", .glo "InvalidWord", .glo "NothingToUndo", .glo "TooMany", .glo "ReelError"]
def fa_4 : List He.Fa := [.glo "FIGURES", .glo "STEPS"]
def fa_ : List He.Fa := fa_0 ++ (fa_1 ++ (fa_2 ++ (fa_3 ++ (fa_4))))
def nm_0 : List PySem.Str := ["ReelError", "InvalidPlan", "InvalidNumber", "InvalidFrame", "InvalidWord", "InvalidSeen", "NothingToUndo", "TooMany", "InvalidText", "MOST_LINES", "MOST_NOTCHES", "MOST_FAR", "MOST_STEP", "is_int", "is_action", "is_line"]
def nm_1 : List PySem.Str := ["is_notch", "is_plan", "need_plan", "STEPS", "FIGURES", "word_of", "text_of", "action_in", "line_in", "read_so", "plan_text", "read_plan", "_law_spool", "_law_wind", "_law_any", "_law_deed"]
def nm_2 : List PySem.Str := ["_law_row", "_law_plot", "_law_is_whole", "_law_is_deed", "_law_is_row", "_law_is_mark", "_law_is_plot", "_law_kinds", "_law_call", "_law_lines", "_law_deed_in", "_law_line_in", "_law_due", "_law_bent"]
def nm_ : List PySem.Str := nm_0 ++ (nm_1 ++ (nm_2))
def tfn_ : List Str := ["law"]
def tf_ : List He.Defn := tfn_.map fun x => (x, none)
def ex_ (K : PySem.W.Frag) : Bool := exL false tfn_ K && ((decide (dictTab K (He.ga K "FIGURES") = some tab_FIGURES) && decide (dictTab K (He.ga K "STEPS") = some tab_STEPS)) && ((excKB8 K && oexFB K "InvalidText" "line") && rootFB K "ReelError"))
def ts_ : List He.Tab := [((fun K => He.ga K "FIGURES"), ["0", "1", "2", "3", "4"]), ((fun K => He.ga K "STEPS"), ["-2", "-1", "0", "1", "2"])]
abbrev R_ : PySem.W.OpenRow := PySem.W.OpenLaw.row PySem.Challenge.rw_reelstrip_k10_strings_that_are_no_plans
abbrev hk_ : PySem.W.Hook := DL.hookY 5 fa_ fn_ ts_ tf_ ex_
def ob_ (s : PySem.W.SharedT) : He.AlX := DL.obsY 5 fa_ fn_ ts_ tf_ ex_ (HandSHeadRun.getT s)
theorem ob_eq (s : PySem.W.SharedT) : ob_ s = hk_.obs s.abs := DL.obsY_eq (HandSHeadRun.getT_eq s)
theorem runF_ (w : World) : HandSHeadRun.RunEq R_ (PySem.W.view R_.prog [50]) hk_ ob_ 8000 nm_ (w.withFollow "special-get-raises" false) := by
  intro os
  kernel_rfl
theorem runT_ (w : World) : HandSHeadRun.RunEq R_ (PySem.W.view R_.prog [50]) hk_ ob_ 8000 nm_ (w.withFollow "special-get-raises" true) := by
  intro os
  kernel_rfl
theorem run_ (w : World) : HandSHeadRun.RunEq R_ (PySem.W.view R_.prog [50]) hk_ ob_ 8000 nm_ w := PySem.W.byRow2 "special-get-raises" (P := fun w => HandSHeadRun.RunEq R_ (PySem.W.view R_.prog [50]) hk_ ob_ 8000 nm_ w) runF_ runT_ w
theorem txt_ {P : Program} {w : World} {K : PySem.W.Frag} {h : Heap} {mg : Str → Option Value} {base : Heap} (X : K.In h) (G_ : h.Ns mainGlobals mg) (c : He.SaysD fa_ fn_ K) (cx : He.SaysX fa_ fn_ ts_ tf_ ex_ w h K) (tb : ∀ p ∈ tf_.map (He.cT K), LamX.TabB base mg p.1 p.2) : Txt ⟨P, w, K, mg, base⟩ where
  b_isinstance := He.free_ok X G_ (c.fact 33 (f := .free "isinstance") rfl)
  b_bool := He.free_ok X G_ (c.fact 34 (f := .free "bool") rfl)
  b_int := He.free_ok X G_ (c.fact 35 (f := .free "int") rfl)
  b_len := He.free_ok X G_ (c.fact 36 (f := .free "len") rfl)
  b_tuple := He.free_ok X G_ (c.fact 37 (f := .free "tuple") rfl)
  b_all := He.free_ok X G_ (c.fact 38 (f := .free "all") rfl)
  b_str := He.free_ok X G_ (c.fact 39 (f := .free "str") rfl)
  b_zip := He.free_ok X G_ (c.fact 40 (f := .free "zip") rfl)
  b_abs := He.free_ok X G_ (c.fact 41 (f := .free "abs") rfl)
  b_sorted := He.free_ok X G_ (c.fact 42 (f := .free "sorted") rfl)
  b_set := He.free_ok X G_ (c.fact 43 (f := .free "set") rfl)
  b_range := He.free_ok X G_ (c.fact 44 (f := .free "range") rfl)
  b_list := He.free_ok X G_ (c.fact 45 (f := .free "list") rfl)
  b_ValueError := He.free_ok X G_ (c.fact 46 (f := .free "ValueError") rfl)
  b_max := He.free_ok X G_ (c.fact 47 (f := .free "max") rfl)
  b_min := He.free_ok X G_ (c.fact 48 (f := .free "min") rfl)
  c_MOST_STEP := He.int_ok X G_ (c.fact 49 (f := .int "MOST_STEP" 2) rfl)
  c_MOST_FAR := He.int_ok X G_ (c.fact 50 (f := .int "MOST_FAR" 4) rfl)
  c_MOST_NOTCHES := He.int_ok X G_ (c.fact 51 (f := .int "MOST_NOTCHES" 2) rfl)
  c_MOST_LINES := He.int_ok X G_ (c.fact 52 (f := .int "MOST_LINES" 4) rfl)
  e_InvalidPlan := let ⟨q1, q2, q3, q4⟩ := He.exc_ok (c.fact 54 (f := .exc "InvalidPlan") rfl); ⟨He.glo_ok X G_ (c.fact 53 (f := .glo "InvalidPlan") rfl), q1, q2, q3, q4⟩
  i_InvalidText := ⟨c.def_ 0 (d := dfi 9 0 "InvalidText") rfl⟩
  ox_InvalidText := oexF_of (band (band (band (band cx.more).2).2).1).2 (He.glo_ok X G_ (c.fact 0 (f := .glo "InvalidText") rfl))
  f_is_int := ⟨c.def_ 1 (d := dfn 15 "is_int") rfl, He.glo_ok X G_ (c.fact 1 (f := .glo "is_int") rfl)⟩
  f_is_action := ⟨c.def_ 2 (d := dfn 16 "is_action") rfl, He.glo_ok X G_ (c.fact 2 (f := .glo "is_action") rfl)⟩
  f_is_line := ⟨c.def_ 3 (d := dfn 17 "is_line") rfl, He.glo_ok X G_ (c.fact 3 (f := .glo "is_line") rfl)⟩
  f_is_notch := ⟨c.def_ 4 (d := dfn 18 "is_notch") rfl, He.glo_ok X G_ (c.fact 4 (f := .glo "is_notch") rfl)⟩
  f_is_plan := ⟨c.def_ 5 (d := dfn 19 "is_plan") rfl, He.glo_ok X G_ (c.fact 5 (f := .glo "is_plan") rfl)⟩
  f_need_plan := ⟨c.def_ 6 (d := dfn 20 "need_plan") rfl, He.glo_ok X G_ (c.fact 6 (f := .glo "need_plan") rfl)⟩
  f_word_of := ⟨c.def_ 7 (d := dfn 24 "word_of") rfl, He.glo_ok X G_ (c.fact 7 (f := .glo "word_of") rfl)⟩
  f_text_of := ⟨c.def_ 8 (d := dfn 25 "text_of") rfl, He.glo_ok X G_ (c.fact 8 (f := .glo "text_of") rfl)⟩
  f_action_in := ⟨c.def_ 9 (d := dfn 26 "action_in") rfl, He.glo_ok X G_ (c.fact 9 (f := .glo "action_in") rfl)⟩
  f_line_in := ⟨c.def_ 10 (d := dfn 27 "line_in") rfl, He.glo_ok X G_ (c.fact 10 (f := .glo "line_in") rfl)⟩
  f_read_so := ⟨c.def_ 11 (d := dfn 28 "read_so") rfl, He.glo_ok X G_ (c.fact 11 (f := .glo "read_so") rfl)⟩
  f_plan_text := ⟨c.def_ 12 (d := dfn 29 "plan_text") rfl, He.glo_ok X G_ (c.fact 12 (f := .glo "plan_text") rfl)⟩
  f_read_plan := ⟨c.def_ 13 (d := dfn 30 "read_plan") rfl, He.glo_ok X G_ (c.fact 13 (f := .glo "read_plan") rfl)⟩
  f__law_spool := ⟨c.def_ 14 (d := dfn 32 "_law_spool") rfl, He.glo_ok X G_ (c.fact 14 (f := .glo "_law_spool") rfl)⟩
  f__law_wind := ⟨c.def_ 15 (d := dfn 33 "_law_wind") rfl, He.glo_ok X G_ (c.fact 15 (f := .glo "_law_wind") rfl)⟩
  f__law_any := ⟨c.def_ 16 (d := dfn 34 "_law_any") rfl, He.glo_ok X G_ (c.fact 16 (f := .glo "_law_any") rfl)⟩
  f__law_deed := ⟨c.def_ 17 (d := dfn 35 "_law_deed") rfl, He.glo_ok X G_ (c.fact 17 (f := .glo "_law_deed") rfl)⟩
  f__law_row := ⟨c.def_ 18 (d := dfn 36 "_law_row") rfl, He.glo_ok X G_ (c.fact 18 (f := .glo "_law_row") rfl)⟩
  f__law_plot := ⟨c.def_ 19 (d := dfn 37 "_law_plot") rfl, He.glo_ok X G_ (c.fact 19 (f := .glo "_law_plot") rfl)⟩
  f__law_is_whole := ⟨c.def_ 20 (d := dfn 38 "_law_is_whole") rfl, He.glo_ok X G_ (c.fact 20 (f := .glo "_law_is_whole") rfl)⟩
  f__law_is_deed := ⟨c.def_ 21 (d := dfn 39 "_law_is_deed") rfl, He.glo_ok X G_ (c.fact 21 (f := .glo "_law_is_deed") rfl)⟩
  f__law_is_row := ⟨c.def_ 22 (d := dfn 40 "_law_is_row") rfl, He.glo_ok X G_ (c.fact 22 (f := .glo "_law_is_row") rfl)⟩
  f__law_is_mark := ⟨c.def_ 23 (d := dfn 41 "_law_is_mark") rfl, He.glo_ok X G_ (c.fact 23 (f := .glo "_law_is_mark") rfl)⟩
  f__law_is_plot := ⟨c.def_ 24 (d := dfn 42 "_law_is_plot") rfl, He.glo_ok X G_ (c.fact 24 (f := .glo "_law_is_plot") rfl)⟩
  f__law_kinds := ⟨c.def_ 25 (d := dfn 43 "_law_kinds") rfl, He.glo_ok X G_ (c.fact 25 (f := .glo "_law_kinds") rfl)⟩
  f__law_call := ⟨c.def_ 26 (d := dfn 44 "_law_call") rfl, He.glo_ok X G_ (c.fact 26 (f := .glo "_law_call") rfl)⟩
  f__law_lines := ⟨c.def_ 27 (d := dfn 45 "_law_lines") rfl, He.glo_ok X G_ (c.fact 27 (f := .glo "_law_lines") rfl)⟩
  f__law_deed_in := ⟨c.def_ 28 (d := dfn 46 "_law_deed_in") rfl, He.glo_ok X G_ (c.fact 28 (f := .glo "_law_deed_in") rfl)⟩
  f__law_line_in := ⟨c.def_ 29 (d := dfn 47 "_law_line_in") rfl, He.glo_ok X G_ (c.fact 29 (f := .glo "_law_line_in") rfl)⟩
  f__law_due := ⟨c.def_ 30 (d := dfn 48 "_law_due") rfl, He.glo_ok X G_ (c.fact 30 (f := .glo "_law_due") rfl)⟩
  f__law_bent := ⟨c.def_ 31 (d := dfn 49 "_law_bent") rfl, He.glo_ok X G_ (c.fact 31 (f := .glo "_law_bent") rfl)⟩
  root := rootF_of (band (band (band cx.more).2).2).2 (He.glo_ok X G_ (c.fact 63 (f := .glo "ReelError") rfl))
  k := excK8_of (band (band (band (band cx.more).2).2).1).1 (fun d hd => by
      rcases (show d = "InvalidFrame" ∨ d = "InvalidNumber" ∨ d = "InvalidPlan" ∨ d = "InvalidSeen" ∨ d = "InvalidText" ∨ d = "InvalidWord" ∨ d = "NothingToUndo" ∨ d = "TooMany" by simpa [excs8] using hd) with rfl | rfl | rfl | rfl | rfl | rfl | rfl | rfl
      · exact He.glo_ok X G_ (c.fact 55 (f := .glo "InvalidFrame") rfl)
      · exact He.glo_ok X G_ (c.fact 56 (f := .glo "InvalidNumber") rfl)
      · exact He.glo_ok X G_ (c.fact 57 (f := .glo "InvalidPlan") rfl)
      · exact He.glo_ok X G_ (c.fact 58 (f := .glo "InvalidSeen") rfl)
      · exact He.glo_ok X G_ (c.fact 59 (f := .glo "InvalidText") rfl)
      · exact He.glo_ok X G_ (c.fact 60 (f := .glo "InvalidWord") rfl)
      · exact He.glo_ok X G_ (c.fact 61 (f := .glo "NothingToUndo") rfl)
      · exact He.glo_ok X G_ (c.fact 62 (f := .glo "TooMany") rfl)) (He.glo_ok X G_ (c.fact 63 (f := .glo "ReelError") rfl))
  d_FIGURES := ⟨He.glo_ok X G_ (c.fact 64 (f := .glo "FIGURES") rfl), cx.t.tab 0, of_decide_eq_true (band (band (band cx.more).2).1).1⟩
  d_STEPS := ⟨He.glo_ok X G_ (c.fact 65 (f := .glo "STEPS") rfl), cx.t.tab 1, of_decide_eq_true (band (band (band cx.more).2).1).2⟩
  t_law := lamF_of (G := ⟨P, w, K, mg, base⟩) (ek := false) (xs := tfn_) (band cx.more).1 (by decide) (cx.hd ("law", none) (by decide)) (tb _ (List.mem_map.mpr ⟨("law", none), by decide, rfl⟩))
theorem chain_ {G : GC} (T : Txt G) {fd : FuncData} (FD : FunD G.K "law" "law" (defArgs s_law) (defBody s_law) (defScope s_law) [] [] (He.ga G.K "law") fd) : FnOk G.P G.w G.K G.mg G.base (L2N.CX G.P G.w) 32 (He.ga G.K "law") fd ["script"] (spD G 1 m_law) := by
  have H_InvalidText_x := ok_InvalidText_x T
  have H_is_int := ok_is_int T
  have H_is_action := ok_is_action T H_is_int
  have H_is_line := ok_is_line T H_is_action
  have H_is_notch := ok_is_notch T H_is_int
  have H_is_plan := ok_is_plan T H_is_notch H_is_line
  have H_need_plan := ok_need_plan T H_is_plan
  have H_word_of := ok_word_of T
  have H_text_of := ok_text_of T H_word_of
  have H_action_in := ok_action_in T
  have H_line_in := ok_line_in T H_is_notch H_is_line H_action_in
  have H_read_so := ok_read_so T H_is_plan H_InvalidText_x H_line_in
  have H_plan_text := ok_plan_text T H_text_of H_need_plan
  have H_read_plan := ok_read_plan T H_read_so
  have H__law_spool := ok__law_spool T
  have H__law_wind := ok__law_wind T
  have H__law_any := ok__law_any T H__law_wind
  have H__law_deed := ok__law_deed T H__law_wind H__law_any
  have H__law_row := ok__law_row T H__law_deed H__law_any
  have H__law_plot := ok__law_plot T H__law_row H__law_wind H__law_any
  have H__law_is_whole := ok__law_is_whole T
  have H__law_is_deed := ok__law_is_deed T H__law_is_whole
  have H__law_is_row := ok__law_is_row T H__law_is_deed
  have H__law_is_mark := ok__law_is_mark T H__law_is_whole
  have H__law_is_plot := ok__law_is_plot T H__law_is_mark H__law_is_row
  have H__law_kinds := ok__law_kinds T
  have H__law_call := ok__law_call T H__law_kinds
  have H__law_lines := ok__law_lines T
  have H__law_deed_in := ok__law_deed_in T
  have H__law_line_in := ok__law_line_in T H__law_deed_in
  have H__law_due := ok__law_due T H__law_is_plot H__law_line_in
  have H__law_bent := ok__law_bent T H__law_any H__law_wind
  exact ok_law T FD H__law_spool H__law_call H_read_plan H_plan_text H__law_due H__law_wind H__law_bent H__law_plot H__law_lines
end Lw
open PySem PySem.W PySem.Calls PyProof.Rows
theorem holds_of (math : ∀ ns : List Int, ns.length ≤ 63 → Lw.m_law [.list (ns.map PyData.int)] = .ok (.bool true)) : PySem.Challenge.rw_reelstrip_k10_strings_that_are_no_plans.Holds := by
  w_on; o_law
  refine HandSHeadRun.head_any (r := OpenLaw.row PySem.Challenge.rw_reelstrip_k10_strings_that_are_no_plans) (q := view (OpenLaw.row PySem.Challenge.rw_reelstrip_k10_strings_that_are_no_plans).prog [50]) (H := Lw.hk_) (ob := Lw.ob_) (M := 8000) (loose := Lw.nm_) (d := HandSHeadRun.topDef (OpenLaw.row PySem.Challenge.rw_reelstrip_k10_strings_that_are_no_plans).prog 50) (kwd := []) Lw.ob_eq
    (by kernel_rfl) (fun s => by kernel_rfl) Lw.run_ (by kernel_rfl) (by kernel_rfl) (by kernel_rfl) (by rfl) (by first | assumption | decide +kernel) (by decide +kernel) ⟨rfl, rfl, rfl, rfl, rfl, by decide +kernel⟩ ?hw ?hc
  case hw => w_witness2
  case hc =>
    refine DL.walk_ofW (l := PySem.Challenge.rw_reelstrip_k10_strings_that_are_no_plans) (n := 63) (k := 32) (x := "script") (CX := fun w => L2N.CX (PySem.Challenge.rw_reelstrip_k10_strings_that_are_no_plans).prog w) rfl (by decide) (by kernel_rfl) ⟨rfl, by decide, by decide⟩ ?F ?G
    case G => exact fun w H s e s' h => by obtain ⟨_, _, _, _, _, _, _, _, _, _, _, _, z⟩ := h; exact z
    case F =>
    intro w mg fa h Y G_ hmg0
    obtain ⟨K, KX, cx⟩ := Y
    have c := cx.t.d
    have hmg : mg ("law" : PySem.Str) = some (.ref fa) := by
      have e : (HandSHeadRun.topDef (OpenLaw.row PySem.Challenge.rw_reelstrip_k10_strings_that_are_no_plans).prog 50).name = ("law" : PySem.Str) := by kernel_rfl
      rw [← e]
      exact hmg0
    have e := hmg.symm.trans (He.glo_ok KX G_ (c.fact 32 (f := .glo "law") rfl))
    have ea : fa = He.ga K "law" := by injection (Option.some.inj e)
    subst ea
    obtain ⟨fd, FD⟩ := c.def_ 32 (d := Lw.dfn 50 "law") rfl
    have b := L2.FunD.bindsA (ps := ["script"]) FD fun _ _ _ _ _ _ us hl => match us, hl with | [_], _ => rfl
    have ht : ∀ p ∈ Lw.tf_.map (He.cT K), DL.TabH K h p := fun p hp => by
      obtain ⟨d, hd, rfl⟩ := List.mem_map.mp hp
      exact ⟨cx.empty d hd, cx.out d hd, PySem.W.codeHd_of_K KX (cx.hd d hd)⟩
    exact ⟨K, fd, DL.spLaw K Lw.m_law, Lw.tf_.map (He.cT K), KX, ht, fun s v => b s [v] rfl, fun H a ns hl hT hS => ⟨a, ns, rfl, hS, fun q hq => by
      obtain ⟨x, hx, e2⟩ := DL.exL_TK (DL.band cx.more).1 hq
      rw [e2]
      exact hT _ (List.mem_map.mpr ⟨(x, none), List.mem_map.mpr ⟨x, hx, rfl⟩, rfl⟩), math ns hl, fun _ => rfl⟩, fun base kb gb tb => (Lw.chain_ (G := ⟨(PySem.Challenge.rw_reelstrip_k10_strings_that_are_no_plans).prog, w, K, mg, base⟩) (Lw.txt_ KX G_ c cx tb) FD).imp (fun vs H Q E h => DL.spLaw_of (G := ⟨(PySem.Challenge.rw_reelstrip_k10_strings_that_are_no_plans).prog, w, K, mg, base⟩) vs H Q E h)⟩
end
open PySem PySem.W PyProof.Rows
set_option maxRecDepth 100000 in
set_option maxHeartbeats 8000000 in
theorem PySem.Challenge.cw_reelstrip_k10_strings_that_are_no_plans_holds : PySem.Challenge.rw_reelstrip_k10_strings_that_are_no_plans.Holds := by
  exact holds_of Lw.law_math
#print axioms PySem.Challenge.cw_reelstrip_k10_strings_that_are_no_plans_holds
