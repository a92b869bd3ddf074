import PyProof.Rows.All
import Wide.All
import OpenK.AllK
import Wide.FinOn
import HandS.ForMost
import HandS.Head2
import HandS.HeadHook4
import HandS.HeadWalk
import HandS.EndTab
import HandS.Deep
import HandS.Conv
import HandS.TupAny
import HandS.Wide
import HandS.WideBits
import HandS.WideMore
import HandS.Rev
import HandS.Style
import HandS.Flow
import HandS.IsInst
import HandS.TupSets
import HandS.Nested
import KE.SortKeyHeap
import KE.KDictKeyed
import KE.GoesMore
import KE.KDictCopyH
import KE.KDictSum
import HandS.SortKw
import KE.IntBitsLaws
import HandS.TryOnly
import KE.DataCmp
import PySem.Challenge.RW_ringfences_k81_whole_fewest_by_all_subse
set_option Elab.async false
set_option linter.all false
set_option maxRecDepth 100000
set_option maxHeartbeats 0
/-! the head: what the top leaves -/
namespace RF
open PySem PySem.Spec L2 LamX NdefX
open PyProof.Rows hiding St
/-! ### the text -/
def topS (i : Nat) : Stmt := PySem.Challenge.pw_ringfences_k81_whole_fewest_by_all_subse.main.body.getD i (.Pass ⟨0, 0, 0, 0⟩)

/-- the j-th def of the class that stands i-th in the text -/
def clsM (i j : Nat) : Stmt := match topS i with
  | .ClassDef _ _ _ b _ _ _ _ _ _ _ => b.getD j (.Pass ⟨0, 0, 0, 0⟩)
  | _ => .Pass ⟨0, 0, 0, 0⟩
abbrev theRow : PySem.W.OpenRow := PySem.W.OpenLaw.row PySem.Challenge.rw_ringfences_k81_whole_fewest_by_all_subse
def d7 : He.DefD := ⟨("is_integer", none), "is_integer", "is_integer", defArgs (topS 7), defBody (topS 7), defScope (topS 7), [], []⟩
def d8 : He.DefD := ⟨("is_access_to", none), "is_access_to", "is_access_to", defArgs (topS 8), defBody (topS 8), defScope (topS 8), [], []⟩
def d9 : He.DefD := ⟨("does_store", none), "does_store", "does_store", defArgs (topS 9), defBody (topS 9), defScope (topS 9), [], []⟩
def d10 : He.DefD := ⟨("empties", none), "empties", "empties", defArgs (topS 10), defBody (topS 10), defScope (topS 10), [], []⟩
def d11 : He.DefD := ⟨("instruction_at", none), "instruction_at", "instruction_at", defArgs (topS 11), defBody (topS 11), defScope (topS 11), [], []⟩
def d12 : He.DefD := ⟨("meets", none), "meets", "meets", defArgs (topS 12), defBody (topS 12), defScope (topS 12), [], []⟩
def d14 : He.DefD := ⟨("queued", none), "queued", "queued", defArgs (topS 14), defBody (topS 14), defScope (topS 14), [], []⟩
def d15 : He.DefD := ⟨("is_turnable", none), "is_turnable", "is_turnable", defArgs (topS 15), defBody (topS 15), defScope (topS 15), [], []⟩
def d16 : He.DefD := ⟨("loose_pairs", none), "loose_pairs", "loose_pairs", defArgs (topS 16), defBody (topS 16), defScope (topS 16), [], []⟩
def d17 : He.DefD := ⟨("first_meeting", none), "first_meeting", "first_meeting", defArgs (topS 17), defBody (topS 17), defScope (topS 17), [], []⟩
def d18 : He.DefD := ⟨("exits_from", none), "exits_from", "exits_from", defArgs (topS 18), defBody (topS 18), defScope (topS 18), [], []⟩
def d19_0 : He.DefD := ⟨("Ways", some "__init__"), "__init__", "Ways.__init__", defArgs (clsM 19 0), defBody (clsM 19 0), defScope (clsM 19 0), [], []⟩
def d19_1 : He.DefD := ⟨("Ways", some "enter"), "enter", "Ways.enter", defArgs (clsM 19 1), defBody (clsM 19 1), defScope (clsM 19 1), [], []⟩
def d19_2 : He.DefD := ⟨("Ways", some "go_on"), "go_on", "Ways.go_on", defArgs (clsM 19 2), defBody (clsM 19 2), defScope (clsM 19 2), [], []⟩
def d19_3 : He.DefD := ⟨("Ways", some "ring_to"), "ring_to", "Ways.ring_to", defArgs (clsM 19 3), defBody (clsM 19 3), defScope (clsM 19 3), [], []⟩
def d19_4 : He.DefD := ⟨("Ways", some "ring_over"), "ring_over", "Ways.ring_over", defArgs (clsM 19 4), defBody (clsM 19 4), defScope (clsM 19 4), [], []⟩
def d20 : He.DefD := ⟨("rings_of", none), "rings_of", "rings_of", defArgs (topS 20), defBody (topS 20), defScope (topS 20), [], []⟩
def d21 : He.DefD := ⟨("live_pairs", none), "live_pairs", "live_pairs", defArgs (topS 21), defBody (topS 21), defScope (topS 21), [], []⟩
def d24 : He.DefD := ⟨("is_remedy", none), "is_remedy", "is_remedy", defArgs (topS 24), defBody (topS 24), defScope (topS 24), [], []⟩
def d25 : He.DefD := ⟨("cuts", none), "cuts", "cuts", defArgs (topS 25), defBody (topS 25), defScope (topS 25), [], []⟩
def d26 : He.DefD := ⟨("cuts_all", none), "cuts_all", "cuts_all", defArgs (topS 26), defBody (topS 26), defScope (topS 26), [], []⟩
def d27 : He.DefD := ⟨("all_remedies", none), "all_remedies", "all_remedies", defArgs (topS 27), defBody (topS 27), defScope (topS 27), [], []⟩
def d28 : He.DefD := ⟨("last_cut", none), "last_cut", "last_cut", defArgs (topS 28), defBody (topS 28), defScope (topS 28), [], []⟩
def d29 : He.DefD := ⟨("from_the_left", none), "from_the_left", "from_the_left", defArgs (topS 29), defBody (topS 29), defScope (topS 29), [], []⟩
def d30 : He.DefD := ⟨("fewest", none), "fewest", "fewest", defArgs (topS 30), defBody (topS 30), defScope (topS 30), [], []⟩
def d31 : He.DefD := ⟨("apart", none), "apart", "apart", defArgs (topS 31), defBody (topS 31), defScope (topS 31), [], []⟩
def d33 : He.DefD := ⟨("point_of", none), "point_of", "point_of", defArgs (topS 33), defBody (topS 33), defScope (topS 33), [], []⟩
def d34_0 : He.DefD := ⟨("Market", some "__init__"), "__init__", "Market.__init__", defArgs (clsM 34 0), defBody (clsM 34 0), defScope (clsM 34 0), [], []⟩
def d34_1 : He.DefD := ⟨("Market", some "cutters"), "cutters", "Market.cutters", defArgs (clsM 34 1), defBody (clsM 34 1), defScope (clsM 34 1), [], []⟩
def d34_2 : He.DefD := ⟨("Market", some "last_point"), "last_point", "Market.last_point", defArgs (clsM 34 2), defBody (clsM 34 2), defScope (clsM 34 2), [], []⟩
def d34_3 : He.DefD := ⟨("Market", some "pay"), "pay", "Market.pay", defArgs (clsM 34 3), defBody (clsM 34 3), defScope (clsM 34 3), [], []⟩
def d34_4 : He.DefD := ⟨("Market", some "bought"), "bought", "Market.bought", defArgs (clsM 34 4), defBody (clsM 34 4), defScope (clsM 34 4), [], []⟩
def d35 : He.DefD := ⟨("cheapest", none), "cheapest", "cheapest", defArgs (topS 35), defBody (topS 35), defScope (topS 35), [], []⟩
def d37 : He.DefD := ⟨("_law_urn", none), "_law_urn", "_law_urn", defArgs (topS 37), defBody (topS 37), defScope (topS 37), [], []⟩
def d38 : He.DefD := ⟨("_law_take", none), "_law_take", "_law_take", defArgs (topS 38), defBody (topS 38), defScope (topS 38), [], []⟩
def d39 : He.DefD := ⟨("_law_of", none), "_law_of", "_law_of", defArgs (topS 39), defBody (topS 39), defScope (topS 39), [], []⟩
def d40 : He.DefD := ⟨("_law_names", none), "_law_names", "_law_names", defArgs (topS 40), defBody (topS 40), defScope (topS 40), [], []⟩
def d41 : He.DefD := ⟨("_law_instruction", none), "_law_instruction", "_law_instruction", defArgs (topS 41), defBody (topS 41), defScope (topS 41), [], []⟩
def d42 : He.DefD := ⟨("_law_near", none), "_law_near", "_law_near", defArgs (topS 42), defBody (topS 42), defScope (topS 42), [], []⟩
def d43 : He.DefD := ⟨("_law_box", none), "_law_box", "_law_box", defArgs (topS 43), defBody (topS 43), defScope (topS 43), [], []⟩
def d44 : He.DefD := ⟨("_law_meet", none), "_law_meet", "_law_meet", defArgs (topS 44), defBody (topS 44), defScope (topS 44), [], []⟩
def d45 : He.DefD := ⟨("_law_waits", none), "_law_waits", "_law_waits", defArgs (topS 45), defBody (topS 45), defScope (topS 45), [], []⟩
def d46 : He.DefD := ⟨("_law_is_loose", none), "_law_is_loose", "_law_is_loose", defArgs (topS 46), defBody (topS 46), defScope (topS 46), [], []⟩
def d47 : He.DefD := ⟨("_law_loose", none), "_law_loose", "_law_loose", defArgs (topS 47), defBody (topS 47), defScope (topS 47), [], []⟩
def d48 : He.DefD := ⟨("_law_goes", none), "_law_goes", "_law_goes", defArgs (topS 48), defBody (topS 48), defScope (topS 48), [], []⟩
def d49 : He.DefD := ⟨("_law_live", none), "_law_live", "_law_live", defArgs (topS 49), defBody (topS 49), defScope (topS 49), [], []⟩
def d50 : He.DefD := ⟨("_law_every", none), "_law_every", "_law_every", defArgs (topS 50), defBody (topS 50), defScope (topS 50), [], []⟩
def d51 : He.DefD := ⟨("_law_cut", none), "_law_cut", "_law_cut", defArgs (topS 51), defBody (topS 51), defScope (topS 51), [], []⟩
def d52 : He.DefD := ⟨("_law_covers", none), "_law_covers", "_law_covers", defArgs (topS 52), defBody (topS 52), defScope (topS 52), [], []⟩
def d53 : He.DefD := ⟨("_law_smallest", none), "_law_smallest", "_law_smallest", defArgs (topS 53), defBody (topS 53), defScope (topS 53), [], []⟩
def d54 : He.DefD := ⟨("_law_right", none), "_law_right", "_law_right", defArgs (topS 54), defBody (topS 54), defScope (topS 54), [], []⟩
def d55 : He.DefD := ⟨("law", none), "law", "law", defArgs (topS 55), defBody (topS 55), defScope (topS 55), [], []⟩
def fn0 : List He.DefD := [d7, d8, d9, d10, d11, d12, d14, d15, d16, d17, d18, d19_0, d19_1, d19_2, d19_3, d19_4, d20, d21, d24, d25]
def fn1 : List He.DefD := [d26, d27, d28, d29, d30, d31, d33, d34_0, d34_1, d34_2, d34_3, d34_4, d35, d37, d38, d39, d40, d41, d42, d43]
def fn2 : List He.DefD := [d44, d45, d46, d47, d48, d49, d50, d51, d52, d53, d54, d55]
def fnAll : List He.DefD := fn0 ++ fn1 ++ fn2
def fa0 : List He.Fa := [.glo "is_integer", .glo "is_access_to", .glo "does_store", .glo "empties", .glo "instruction_at", .glo "meets", .glo "queued", .glo "is_turnable", .glo "loose_pairs", .glo "first_meeting", .glo "exits_from", .glo "Ways", .glo "rings_of", .glo "live_pairs", .glo "is_remedy", .glo "cuts", .glo "cuts_all", .glo "all_remedies", .glo "last_cut", .glo "from_the_left"]
def fa1 : List He.Fa := [.glo "fewest", .glo "apart", .glo "point_of", .glo "Market", .glo "cheapest", .glo "_law_urn", .glo "_law_take", .glo "_law_of", .glo "_law_names", .glo "_law_instruction", .glo "_law_near", .glo "_law_box", .glo "_law_meet", .glo "_law_waits", .glo "_law_is_loose", .glo "_law_loose", .glo "_law_goes", .glo "_law_live", .glo "_law_every", .glo "_law_cut"]
def fa2 : List He.Fa := [.glo "_law_covers", .glo "_law_smallest", .glo "_law_right", .glo "law", .str "FENCE" "fence", .str "LOAD" "load", .str "STORE" "store", .str "SWAP" "swap", .str "LINE" "line", .str "LANES" "lanes", .int "REMEDY_PARTS" 3, .free "any", .free "all", .free "len", .free "range", .free "enumerate", .free "tuple", .free "list", .free "set", .free "dict"]
def fa3 : List He.Fa := [.free "sorted", .free "min", .free "max", .free "sum", .free "abs", .free "int", .free "bool", .free "isinstance", .cls "Ways", .mkr "Ways", .cls "Market", .mkr "Market", .noat "Ways" "threads", .noat "Ways" "home", .noat "Ways" "entries", .noat "Market" "price_of", .noat "Market" "line", .noat "Market" "rest", .noat "Market" "weight_of", .noat "Market" "paid"]
def fa4 : List He.Fa := [.noat "Market" "pairs", .noat "Market" "is_possible", .meth "Ways" "enter", .meth "Ways" "go_on", .meth "Ways" "ring_to", .meth "Ways" "ring_over", .meth "Market" "cutters", .meth "Market" "last_point", .meth "Market" "pay", .meth "Market" "bought"]
def faAll : List He.Fa := fa0 ++ fa1 ++ fa2 ++ fa3 ++ fa4
def lo0 : List Str := ["__name__", "FENCE", "LOAD", "STORE", "SWAP", "LINE", "LANES", "is_integer", "is_access_to", "does_store", "empties", "instruction_at", "meets", "queued", "is_turnable", "loose_pairs", "first_meeting", "exits_from", "Ways", "rings_of"]
def lo1 : List Str := ["live_pairs", "REMEDY_PARTS", "is_remedy", "cuts", "cuts_all", "all_remedies", "last_cut", "from_the_left", "fewest", "apart", "point_of", "Market", "cheapest", "_law_urn", "_law_take", "_law_of", "_law_names", "_law_instruction", "_law_near", "_law_box"]
def lo2 : List Str := ["_law_meet", "_law_waits", "_law_is_loose", "_law_loose", "_law_goes", "_law_live", "_law_every", "_law_cut", "_law_covers", "_law_smallest", "_law_right"]
def loAll : List Str := lo0 ++ lo1 ++ lo2
def tfAll : List He.Defn := [("from_the_left", none), ("Market", some "__init__"), ("Market", some "pay")]
def exAll (K : PySem.W.Frag) : Bool := decide ((tfAll.map fun p => (He.cT K p).2).Nodup)
abbrev hk : PySem.W.Hook := He.hookX 6 faAll fnAll [] tfAll exAll
def ob (s : PySem.W.SharedT) : He.AlX := He.obsX 6 faAll fnAll [] tfAll exAll (HandSHeadRun.getT s)
theorem ob_eq (s : PySem.W.SharedT) : ob s = hk.obs s.abs := He.obsX_eq (HandSHeadRun.getT_eq s)
theorem run (w : World) : HandSHeadRun.RunEq theRow (PySem.W.view theRow.prog [55]) hk ob 3000 loAll w := by
  intro os
  kernel_rfl
end RF
set_option Elab.async false
set_option linter.all false
set_option maxRecDepth 100000
namespace RF
open PySem PySem.Spec PyProof.Rows L2 LamX

/-! ### data that stands in the abstract heap: scalars and tuples of data -/
mutual
inductive Dt (H : Hp) : V → PyData → Prop
  | non : Dt H .non .none
  | bl (b : Bool) : Dt H (.bl b) (.bool b)
  | int (i : Int) : Dt H (.int i) (.int i)
  | str (x : Str) : Dt H (.str x) (.str x)
  | tup {a : Addr} {xs : List V} {ds : List PyData} : H a = some (.tup xs) → DtL H xs ds → Dt H (.ref a) (.tuple ds)
inductive DtL (H : Hp) : List V → List PyData → Prop
  | nil : DtL H [] []
  | cons {v : V} {vs : List V} {d : PyData} {ds : List PyData} : Dt H v d → DtL H vs ds → DtL H (v :: vs) (d :: ds)
end
/-- all tuples stay -/
def Tk (H H' : Hp) : Prop := ∀ a xs, H a = some (.tup xs) → H' a = some (.tup xs)
theorem Tk.refl (H : Hp) : Tk H H := fun _ _ h => h
theorem Tk.trans {H H1 H2 : Hp} (a : Tk H H1) (b : Tk H1 H2) : Tk H H2 := fun c xs h => b c xs (a c xs h)
mutual
theorem Dt.mono {H H' : Hp} (k : Tk H H') : ∀ {v : V} {d : PyData}, Dt H v d → Dt H' v d
  | _, _, .non => .non
  | _, _, .bl b => .bl b
  | _, _, .int i => .int i
  | _, _, .str x => .str x
  | _, _, .tup h t => .tup (k _ _ h) (DtL.mono k t)
theorem DtL.mono {H H' : Hp} (k : Tk H H') : ∀ {v : List V} {d : List PyData}, DtL H v d → DtL H' v d
  | _, _, .nil => .nil
  | _, _, .cons h t => .cons (Dt.mono k h) (DtL.mono k t)
end
theorem Dt.inv_tup {H : Hp} {v : V} {ds : List PyData} (h : Dt H v (.tuple ds)) : ∃ a xs, v = .ref a ∧ H a = some (.tup xs) ∧ DtL H xs ds := by
  cases h with
  | tup h1 h2 => exact ⟨_, _, rfl, h1, h2⟩
theorem Dt.inv_int {H : Hp} {v : V} {i : Int} (h : Dt H v (.int i)) : v = .int i := by cases h; rfl
theorem Dt.inv_bl {H : Hp} {v : V} {i : Bool} (h : Dt H v (.bool i)) : v = .bl i := by cases h; rfl
theorem Dt.inv_str {H : Hp} {v : V} {i : Str} (h : Dt H v (.str i)) : v = .str i := by cases h; rfl
theorem Dt.inv_non {H : Hp} {v : V} (h : Dt H v .none) : v = .non := by cases h; rfl
theorem DtL.len {H : Hp} : ∀ {vs : List V} {ds : List PyData}, DtL H vs ds → vs.length = ds.length
  | _, _, .nil => rfl
  | _, _, .cons _ t => by rw [List.length_cons, List.length_cons, t.len]
theorem DtL.get {H : Hp} : ∀ {vs : List V} {ds : List PyData} {i : Nat} {d : PyData}, DtL H vs ds → ds[i]? = some d → ∃ v, vs[i]? = some v ∧ Dt H v d
  | _, _, _, _, .nil, e => by simp at e
  | _, _, 0, _, .cons h _, e => by simp at e; subst e; exact ⟨_, rfl, h⟩
  | _, _, i + 1, _, .cons _ t, e => by
    obtain ⟨v, h1, h2⟩ := t.get (i := i) (by simpa using e)
    exact ⟨v, by simpa using h1, h2⟩
theorem DtL.getV {H : Hp} : ∀ {vs : List V} {ds : List PyData} {i : Nat} {v : V}, DtL H vs ds → vs[i]? = some v → ∃ d, ds[i]? = some d ∧ Dt H v d
  | _, _, _, _, .nil, e => by simp at e
  | _, _, 0, _, .cons h _, e => by simp at e; subst e; exact ⟨_, rfl, h⟩
  | _, _, i + 1, _, .cons _ t, e => by
    obtain ⟨v, h1, h2⟩ := t.getV (i := i) (by simpa using e)
    exact ⟨v, by simpa using h1, h2⟩
theorem DtL.append {H : Hp} : ∀ {vs ws : List V} {ds es : List PyData}, DtL H vs ds → DtL H ws es → DtL H (vs ++ ws) (ds ++ es)
  | _, _, _, _, .nil, s => s
  | _, _, _, _, .cons r t, s => .cons r (t.append s)
theorem DtL.take {H : Hp} : ∀ {vs : List V} {ds : List PyData} (n : Nat), DtL H vs ds → DtL H (vs.take n) (ds.take n)
  | _, _, 0, _ => .nil
  | _, _, _ + 1, .nil => .nil
  | _, _, n + 1, .cons r t => .cons r (t.take n)
theorem DtL.drop {H : Hp} : ∀ {vs : List V} {ds : List PyData} (n : Nat), DtL H vs ds → DtL H (vs.drop n) (ds.drop n)
  | _, _, 0, r => r
  | _, _, _ + 1, .nil => .nil
  | _, _, n + 1, .cons _ t => t.drop n
theorem DtL.atI {H : Hp} {vs : List V} {ds : List PyData} {i : Int} {d : PyData} (h : DtL H vs ds) (e : L2.atI ds i = some d) : ∃ v, L2.atI vs i = some v ∧ Dt H v d := by
  unfold L2.atI at e ⊢
  rw [h.len]
  cases q : ixN ds.length i with
  | none => rw [q] at e; cases e
  | some j =>
    rw [q] at e
    obtain ⟨v, h1, h2⟩ := h.get (i := j) e
    exact ⟨v, h1, h2⟩
/-! .. over the deep data of the layer -/
mutual
theorem Dt.dp {K : PySem.W.Frag} {H : Hp} : ∀ {v : V} {d : PyData}, Dt H v d → Dp K H v d
  | _, _, .non => .non
  | _, _, .bl b => .bl b
  | _, _, .int i => .int i
  | _, _, .str x => .str x
  | _, _, .tup h t => .tup (SqT.of h) (DtL.dp t)
theorem DtL.dp {K : PySem.W.Frag} {H : Hp} : ∀ {v : List V} {d : List PyData}, DtL H v d → DpAll K H v d
  | _, _, .nil => .nil
  | _, _, .cons h t => .cons h.dp t.dp
end

/-! ### the heap grows: all but code tables stays; the tables T stay tables; nothing is untracked -/
structure Le (T : List (Addr × Str)) (H H' : Hp) : Prop where
  ex : ExtN H H'
  tb : Tabs T H → Tabs T H'
  fr : ∀ b, H' b = none → H b = none
section
variable {T : List (Addr × Str)} {H H1 H2 H' : Hp}
theorem Le.refl (H : Hp) : Le T H H := ⟨.refl H, fun h => h, fun _ h => h⟩
theorem Le.trans (a : Le T H H1) (b : Le T H1 H2) : Le T H H2 := ⟨a.ex.trans b.ex, fun h => b.tb (a.tb h), fun c h => a.fr c (b.fr c h)⟩
theorem none_of_ext {H H' : Hp} (e : ∀ b o, H b = some o → H' b = some o) : ∀ b, H' b = none → H b = none := fun b h => by
  cases q : H b with
  | none => rfl
  | some o => rw [e b o q] at h; cases h
theorem Le.of (e : ∀ b o, H b = some o → H' b = some o) : Le T H H' := ⟨.of e, fun h => h.ext e, none_of_ext e⟩
theorem Le.new {p : Addr} {o : HO} (h : H p = none) : Le T H (upd H p o) := .of fun b u e => by rw [upd_ne (ne_of_none e h)]; exact e
theorem Le.tk (a : Le T H H') : Tk H H' := fun b xs h => a.ex b _ h fun _ z => by cases z
theorem Le.lst (a : Le T H H') {p : Addr} {xs : List V} (h : H p = some (.lst xs)) : H' p = some (.lst xs) := a.ex p _ h fun _ z => by cases z
theorem Le.ins (a : Le T H H') {p C dx : Addr} {fs : List (Str × V)} (h : H p = some (.ins C dx fs)) : H' p = some (.ins C dx fs) := a.ex p _ h fun _ z => by cases z
theorem Le.exo (a : Le T H H') {p : Addr} {φ : Heap → Prop} (h : H p = some (.ext φ)) : H' p = some (.ext φ) := a.ex p _ h fun _ z => by cases z
/-- an object that H does not know, nor a table or a code object, changes -/
theorem Le.mut {p : Addr} {o : HO} (a : Le T H H') (h : H p = none) (ht : Tabs T H' → Tabs T (upd H' p o)) : Le T H (upd H' p o) where
  ex := fun b u hb n => by
    rw [upd_ne (ne_of_none hb h)]
    exact a.ex b u hb n
  tb := fun t => ht (a.tb t)
  fr := fun b hb => by
    by_cases e : b = p
    · rw [e]; exact h
    · rw [upd_ne e] at hb
      exact a.fr b hb
/-- the tables do not lean on a list, a dict .. -/
theorem tabs_upd {p : Addr} {o u : HO} (h : H p = some u) (n1 : ∀ ps, u ≠ .tbl ps) (n2 : ∀ c q, u ≠ CodeO c q) (t : Tabs T H) : Tabs T (upd H p o) := fun x hx => by
  obtain ⟨ps, h1, h2, h3⟩ := t x hx
  have np : x.1 ≠ p := fun e => by
    rw [e, h] at h1
    exact n1 ps (Option.some.inj h1)
  refine ⟨ps, by rw [upd_ne np]; exact h1, h2, fun pos cv hc => ?_⟩
  obtain ⟨c, e1, e2⟩ := h3 pos cv hc
  refine ⟨c, e1, ?_⟩
  rw [upd_ne (fun e => n2 c x.2 (by rw [e, h] at e2; rw [e]; exact Option.some.inj e2))]
  exact e2
theorem tabs_lst {p : Addr} {xs : List V} {o : HO} (h : H p = some (.lst xs)) (t : Tabs T H) : Tabs T (upd H p o) := tabs_upd h (fun _ z => by cases z) (fun _ _ z => by unfold CodeO at z; cases z) t
theorem tabs_ins {p C dx : Addr} {fs : List (Str × V)} {o : HO} (h : H p = some (.ins C dx fs)) (t : Tabs T H) : Tabs T (upd H p o) := tabs_upd h (fun _ z => by cases z) (fun _ _ z => by unfold CodeO at z; cases z) t
theorem Le.mutL {p : Addr} {o : HO} {xs : List V} (a : Le T H H') (h : H p = none) (hl : H' p = some (.lst xs)) : Le T H (upd H' p o) := a.mut h (tabs_lst hl)
theorem tk_lst {p : Addr} {xs : List V} {o : HO} (h : H p = some (.lst xs)) : Tk H (upd H p o) := fun b ys e => by
  rw [upd_ne (fun z => by rw [z, h] at e; cases e)]
  exact e
end
end RF
set_option Elab.async false
set_option linter.all false
set_option maxRecDepth 100000
namespace RF
open PySem PySem.Spec L2 LamX
open PyProof.Rows hiding St

/-! ### what is known of a slot -/
inductive Sl where
  | x
  | d (d : PyData)
  | v (v : V)
def SlOk (H : Hp) (o : Option V) : Sl → Prop
  | .x => True
  | .d d => ∃ v, o = some v ∧ Dt H v d
  | .v v => o = some v
inductive Sg (H : Hp) : St → List Sl → Prop
  | nil : Sg H [] []
  | cons {o : Option V} {s : Sl} {σ : St} {δ : List Sl} : SlOk H o s → Sg H σ δ → Sg H (o :: σ) (s :: δ)
inductive SsOk (H : Hp) : List V → List Sl → Prop
  | nil : SsOk H [] []
  | cons {v : V} {s : Sl} {vs : List V} {ss : List Sl} : SlOk H (some v) s → SsOk H vs ss → SsOk H (v :: vs) (s :: ss)
section
variable {H H' : Hp} {σ : St} {δ : List Sl}
theorem SlOk.mono (k : Tk H H') : ∀ {o : Option V} {s : Sl}, SlOk H o s → SlOk H' o s
  | _, .x, _ => True.intro
  | _, .d _, ⟨v, e, h⟩ => ⟨v, e, h.mono k⟩
  | _, .v _, h => h
theorem Sg.mono (k : Tk H H') : ∀ {σ : St} {δ : List Sl}, Sg H σ δ → Sg H' σ δ
  | _, _, .nil => .nil
  | _, _, .cons h t => .cons (h.mono k) (t.mono k)
theorem SsOk.mono (k : Tk H H') : ∀ {vs : List V} {ss : List Sl}, SsOk H vs ss → SsOk H' vs ss
  | _, _, .nil => .nil
  | _, _, .cons h t => .cons (h.mono k) (t.mono k)
theorem Sg.get : ∀ {σ : St} {δ : List Sl} {i : Nat} {s : Sl}, Sg H σ δ → δ[i]? = some s → ∃ o, σ[i]? = some o ∧ SlOk H o s
  | _, _, _, _, .nil, e => by simp at e
  | _, _, 0, _, .cons h _, e => by simp at e; subst e; exact ⟨_, rfl, h⟩
  | _, _, i + 1, _, .cons _ t, e => by
    obtain ⟨o, h1, h2⟩ := t.get (i := i) (by simpa using e)
    exact ⟨o, by simpa using h1, h2⟩
theorem Sg.set {o : Option V} {s : Sl} (q : SlOk H o s) : ∀ {σ : St} {δ : List Sl} (i : Nat), Sg H σ δ → Sg H (σ.set i o) (δ.set i s)
  | _, _, _, .nil => .nil
  | _, _, 0, .cons _ t => .cons q t
  | _, _, i + 1, .cons h t => .cons h (Sg.set q i t)
def wipeS (δ : List Sl) : List Nat → List Sl
  | [] => δ
  | v :: vs => (wipeS δ vs).set v .x
theorem Sg.wipe (g : Sg H σ δ) : ∀ vs : List Nat, Sg H (wipe σ vs) (wipeS δ vs)
  | [] => g
  | v :: vs => (g.wipe vs).set (o := none) (s := .x) True.intro v
theorem Sg.forget (g : Sg H σ δ) (i : Nat) : Sg H σ (δ.set i .x) := by
  induction g generalizing i with
  | nil => exact .nil
  | cons h t ih =>
    cases i with
    | zero => exact .cons True.intro t
    | succ i => exact .cons h (ih i)
theorem SsOk.vals_d : ∀ {vs : List V} {ds : List PyData}, SsOk H vs (ds.map Sl.d) → DtL H vs ds
  | _, [], h => by cases h; exact .nil
  | _, d :: ds, h => by
    cases h with
    | cons h1 h2 =>
      obtain ⟨v, e, h3⟩ := h1
      cases e
      exact .cons h3 h2.vals_d
theorem Sg.start : ∀ {vs : List V} {ss : List Sl} (n : Nat), SsOk H vs ss → Sg H (vs.map some ++ List.replicate n none) (ss ++ List.replicate n .x)
  | _, _, 0, .nil => .nil
  | _, _, n + 1, .nil => .cons True.intro (Sg.start n .nil)
  | _, _, n, .cons h t => .cons h (Sg.start n t)
end

/-! ### the weakest readings -/
def wE (X : Cx) (e : Expr) : TE := fun σ H Q => ∀ (pins : List (Addr × Obj)) (s : Shared), Inv X pins σ H s → wpAny (model X.prog X.w) X.A (eval e X.env) (EP X pins σ Q) X.xe s
def wT (X : Cx) (e : Expr) : TT := fun σ H Q => ∀ (pins : List (Addr × Obj)) (s : Shared), Inv X pins σ H s → wpAny (model X.prog X.w) X.A (isTrue e X.env (eval e X.env)) (TP X pins σ Q) X.xe s
def wW (X : Cx) (e : Expr) : TT := fun σ H Q => ∀ (whole : Sem Value) (pins : List (Addr × Obj)) (s : Shared), Inv X pins σ H s → wpAny (model X.prog X.w) X.A (isTrue e X.env whole) (TP X pins σ Q) X.xe s
def wA (X : Cx) (es : List Expr) : TA := fun σ H Q => ∀ (pos : Pos) (pins : List (Addr × Obj)) (s : Shared), Inv X pins σ H s → wpAny (model X.prog X.w) X.A (spliced (backTo pos (starEach es X.env))) (AP X pins σ Q) X.xe s
def wS (X : Cx) (st : Stmt) : TS := fun D σ H => ∀ (pins : List (Addr × Obj)) (s : Shared), Inv X pins σ H s → wpAny (model X.prog X.w) X.A (exec st X.env) (SP X pins D) X.xe s
def wSs (X : Cx) (st : List Stmt) : TS := fun D σ H => ∀ (pins : List (Addr × Obj)) (s : Shared), Inv X pins σ H s → wpAny (model X.prog X.w) X.A (execs st X.env) (SP X pins D) X.xe s
def wG (X : Cx) (tg : Expr) : TG := fun v σ H Q => ∀ (pins : List (Addr × Obj)) (s : Shared) (u : Value), Inv X pins σ H s → RelV v u → wpAny (model X.prog X.w) X.A (assign tg X.env u) (fun _ s' => ∃ σ' H', Inv X pins σ' H' s' ∧ Q σ' H') X.xe s
section
variable {X : Cx} {e : Expr} {es : List Expr} {st : Stmt} {sts : List Stmt} {σ : St} {H : Hp}
theorem pe_w : PE X e (wE X e) := ⟨fun pins s _ _ _ I h => h pins s I⟩
theorem pt_w : PT X e (wT X e) := ⟨fun pins s _ _ _ I h => h pins s I⟩
theorem pw_w : PW X e (wW X e) := ⟨fun w pins s _ _ _ I h => h w pins s I⟩
theorem pa_w : PA X es (wA X es) := ⟨fun p pins s _ _ _ I h => h p pins s I⟩
theorem ps_w : PS X st (wS X st) := ⟨fun pins s _ _ _ I h => h pins s I⟩
theorem pss_w : PSs X sts (wSs X sts) := ⟨fun pins s _ _ _ I h => h pins s I⟩
theorem pg_w : PG X e (wG X e) := ⟨fun pins s _ _ _ _ _ I r h => h pins s _ I r⟩
theorem w_pe {t : TE} {Q : VK} (p : PE X e t) (q : t σ H Q) : wE X e σ H Q := fun pins s I => p.run pins s σ H Q I q
theorem w_pt {t : TT} {Q : Bool → Hp → Prop} (p : PT X e t) (q : t σ H Q) : wT X e σ H Q := fun pins s I => p.run pins s σ H Q I q
theorem w_pw {t : TT} {Q : Bool → Hp → Prop} (p : PW X e t) (q : t σ H Q) : wW X e σ H Q := fun w pins s I => p.run w pins s σ H Q I q
theorem w_pa {t : TA} {Q : List V → Hp → Prop} (p : PA X es t) (q : t σ H Q) : wA X es σ H Q := fun w pins s I => p.run w pins s σ H Q I q
theorem w_ps {t : TS} {D : Ends} (p : PS X st t) (q : t D σ H) : wS X st D σ H := fun pins s I => p.run pins s σ H D I q
theorem w_pss {t : TS} {D : Ends} (p : PSs X sts t) (q : t D σ H) : wSs X sts D σ H := fun pins s I => p.run pins s σ H D I q
theorem w_pg {t : TG} {v : V} {Q : St → Hp → Prop} (p : PG X e t) (q : t v σ H Q) : wG X e v σ H Q := fun pins s u I r => p.run pins s σ H v u Q I r q
theorem wE.imp {Q Q' : VK} (h : wE X e σ H Q) (k : ∀ v H', Q v H' → Q' v H') : wE X e σ H Q' := fun pins s I => thn (h pins s I) fun _ _ ⟨v, H', I', r, q⟩ => ⟨v, H', I', r, k v H' q⟩
theorem wT.imp {Q Q' : Bool → Hp → Prop} (h : wT X e σ H Q) (k : ∀ v H', Q v H' → Q' v H') : wT X e σ H Q' := fun pins s I => thn (h pins s I) fun _ _ ⟨H', I', q⟩ => ⟨H', I', k _ H' q⟩
end

/-! ### what an expression evaluates to, in every growth of the heap -/
section
variable (T : List (Addr × Str)) (X : Cx)
def Ev (e : Expr) (σ : St) (H : Hp) (s : Sl) : Prop := ∀ H1, Le T H H1 → ∀ Q : VK, (∀ v H2, Le T H1 H2 → SlOk H2 (some v) s → Q v H2) → wE X e σ H1 Q
abbrev EvD (e : Expr) (σ : St) (H : Hp) (d : PyData) : Prop := Ev T X e σ H (.d d)
/-- a new list of data -/
def EvL (e : Expr) (σ : St) (H : Hp) (ds : List PyData) : Prop := ∀ H1, Le T H H1 → ∀ Q : VK, (∀ p xs H2, H1 p = none → Le T H1 H2 → H2 p = some (.lst xs) → DtL H2 xs ds → Q (.ref p) H2) → wE X e σ H1 Q
def EvA (es : List Expr) (σ : St) (H : Hp) (ss : List Sl) : Prop := ∀ H1, Le T H H1 → ∀ Q : List V → Hp → Prop, (∀ vs H2, Le T H1 H2 → SsOk H2 vs ss → Q vs H2) → wA X es σ H1 Q
def EvT (e : Expr) (σ : St) (H : Hp) (b : Bool) : Prop := ∀ H1, Le T H H1 → ∀ Q : Bool → Hp → Prop, (∀ H2, Le T H1 H2 → Q b H2) → wT X e σ H1 Q
def EvW (e : Expr) (σ : St) (H : Hp) (b : Bool) : Prop := ∀ H1, Le T H H1 → ∀ Q : Bool → Hp → Prop, (∀ H2, Le T H1 H2 → Q b H2) → wW X e σ H1 Q
/-- a truth value, as a value and as a test -/
structure EB (e : Expr) (σ : St) (H : Hp) (b : Bool) : Prop where
  v : EvD T X e σ H (.bool b)
  t : EvT T X e σ H b
structure EBW (e : Expr) (σ : St) (H : Hp) (b : Bool) : Prop where
  v : EvD T X e σ H (.bool b)
  w : EvW T X e σ H b
end
section
variable {T : List (Addr × Str)} {X : Cx} {e a b c : Expr} {es : List Expr} {σ : St} {H H' : Hp} {δ : List Sl} {s s' : Sl} {d d' d'' : PyData} {pos p p2 : Pos}
theorem Ev.mono (k : Le T H H') (h : Ev T X e σ H s) : Ev T X e σ H' s := fun H1 l Q q => h H1 (k.trans l) Q q
theorem EvL.mono {ds : List PyData} (k : Le T H H') (h : EvL T X e σ H ds) : EvL T X e σ H' ds := fun H1 l Q q => h H1 (k.trans l) Q q
theorem EvA.mono {ss : List Sl} (k : Le T H H') (h : EvA T X es σ H ss) : EvA T X es σ H' ss := fun H1 l Q q => h H1 (k.trans l) Q q
theorem EvT.mono {k : Bool} (l : Le T H H') (h : EvT T X e σ H k) : EvT T X e σ H' k := fun H1 l' Q q => h H1 (l.trans l') Q q
theorem EBW.eb {k : Bool} (h : EBW T X e σ H k) : EB T X e σ H k := ⟨h.v, fun H1 l Q q => w_pt pw_w.pt (h.w H1 l Q q)⟩
theorem Ev.to (h : Ev T X e σ H s) (k : s = s') : Ev T X e σ H s' := k ▸ h
theorem EvD.to (h : EvD T X e σ H d) (k : d = d') : EvD T X e σ H d' := k ▸ h
theorem EvL.to {ds ds' : List PyData} (h : EvL T X e σ H ds) (k : ds = ds') : EvL T X e σ H ds' := k ▸ h
theorem EB.to {k k' : Bool} (h : EB T X e σ H k) (q : k = k') : EB T X e σ H k' := q ▸ h

/-! names, constants -/
theorem ev_v (i : Nat) {x : Str} (g : Sg H σ δ) (hi : δ[i]? = some s) (hN : X.N[i]? = some x := by rfl) (hs : s ≠ .x := by intro h; cases h) (hv : Vis X.env.scope x := by first | exact Or.inl rfl | exact Or.inr (Or.inl rfl) | exact Or.inr (Or.inr rfl)) (hd : (x == ("__debug__" : Str)) = false := by decide)
    (hcd : (x == ("__classdict__" : Str)) = false := by decide) : Ev T X (.Name x pos) σ H s := fun H1 l Q q => by
  obtain ⟨o, e, h⟩ := g.get hi
  cases s with
  | x => exact absurd rfl hs
  | d d =>
    obtain ⟨v, rfl, hv'⟩ := h
    exact w_pe (pe_var hN hv hd hcd) ⟨v, e, q v H1 (.refl _) ⟨v, rfl, hv'.mono l.tk⟩⟩
  | v v =>
    have h' : o = some v := h
    subst h'
    exact w_pe (pe_var hN hv hd hcd) ⟨v, e, q v H1 (.refl _) rfl⟩
theorem ev_gs {x : Str} {y : Str} {t : Tok} (hm : X.mg x = some (.str y t)) (hg : Gl X x := by rfl) (hd : (x == ("__debug__" : Str)) = false := by decide) : EvD T X (.Name x pos) σ H (.str y) := fun H1 l Q q =>
  w_pe (pe_glob (v := .str y) hg hm ⟨t, rfl⟩ hd) (q _ H1 (.refl _) ⟨_, rfl, .str y⟩)
theorem ev_gi {x : Str} {y : Int} {t : Tok} (hm : X.mg x = some (.int y t)) (hg : Gl X x := by rfl) (hd : (x == ("__debug__" : Str)) = false := by decide) : EvD T X (.Name x pos) σ H (.int y) := fun H1 l Q q =>
  w_pe (pe_glob (v := .int y) hg hm ⟨t, rfl⟩ hd) (q _ H1 (.refl _) ⟨_, rfl, .int y⟩)
theorem ev_int {i : Int} {j : Nat} : EvD T X (.Constant (.int i) j pos) σ H (.int i) := fun H1 _ Q q => w_pe pe_int (q _ H1 (.refl _) ⟨_, rfl, .int i⟩)
theorem ev_str {i : Str} {j : Nat} : EvD T X (.Constant (.str i) j pos) σ H (.str i) := fun H1 _ Q q => w_pe pe_str (q _ H1 (.refl _) ⟨_, rfl, .str i⟩)
theorem ev_bl {i : Bool} {j : Nat} : EvD T X (.Constant (.bool i) j pos) σ H (.bool i) := fun H1 _ Q q => w_pe pe_bl (q _ H1 (.refl _) ⟨_, rfl, .bl i⟩)
theorem ev_non {j : Nat} : EvD T X (.Constant .none j pos) σ H .none := fun H1 _ Q q => w_pe pe_non (q _ H1 (.refl _) ⟨_, rfl, .non⟩)

/-! arguments -/
theorem ea_nil : EvA T X [] σ H [] := fun H1 _ Q q => w_pa pa_nil (q _ H1 (.refl _) .nil)
theorem ea_cons {ss : List Sl} (ha : Ev T X e σ H s) (hr : EvA T X es σ H ss) (hs : starEach (e :: es) X.env = (false, eval e X.env) :: starEach es X.env := by rfl) : EvA T X (e :: es) σ H (s :: ss) := fun H1 l Q q => by
  refine w_pa (pa_cons pe_w pa_w hs) (ha H1 l _ fun v H2 l2 h2 => ?_)
  exact hr H2 (l.trans l2) _ fun vs H3 l3 h3 => q _ H3 (l2.trans l3) (.cons (h2.mono l3.tk) h3)
theorem ea_1 (ha : Ev T X e σ H s) (hs : starEach [e] X.env = (false, eval e X.env) :: starEach [] X.env := by rfl) : EvA T X [e] σ H [s] := ea_cons ha ea_nil hs

/-! displays, subscripts -/
theorem ev_tup {ds : List PyData} {k : Nat} (h : EvA T X es σ H (ds.map Sl.d)) (hl : ds.length ≤ 10000 := by exact Nat.le_of_ble_eq_true rfl) : EvD T X (.Tuple es k pos) σ H (.tuple ds) := fun H1 l Q q => by
  refine w_pe (pe_tup pa_w) (h H1 l _ fun vs H2 l2 h2 => ⟨?_, fun p hp => ?_⟩)
  · have := h2.vals_d.len
    exact Nat.le_trans (Nat.le_of_eq this) (Nat.le_trans hl (by decide))
  · have hd := h2.vals_d
    exact q _ _ (l2.trans (.new hp)) ⟨_, rfl, .tup upd_same (hd.mono (Le.new (T := T) hp).tk)⟩
theorem ev_lst {ds : List PyData} (h : EvA T X es σ H (ds.map Sl.d)) (hl : ds.length ≤ 10000 := by exact Nat.le_of_ble_eq_true rfl) : EvL T X (.List es pos) σ H ds := fun H1 l Q q => by
  refine w_pe (pe_lst pa_w) (h H1 l _ fun vs H2 l2 h2 => ⟨?_, fun p hp => ?_⟩)
  · have := h2.vals_d.len
    exact Nat.le_trans (Nat.le_of_eq this) (Nat.le_trans hl (by decide))
  · have hd := h2.vals_d
    exact q p _ _ (l2.fr p hp) (l2.trans (.new hp)) upd_same (hd.mono (Le.new (T := T) hp).tk)
/-- t[i], t a tuple -/
theorem ev_ix {ds : List PyData} {i : Int} (ha : EvD T X a σ H (.tuple ds)) (hb : EvD T X b σ H (.int i)) (hi : atI ds i = some d) (hs : PlainIx b := by exact fun _ _ => rfl) : EvD T X (.Subscript a b pos) σ H d := fun H1 l Q q => by
  refine w_pe (pe_ix ix_tup pe_w pe_w hs) (ha H1 l _ fun v H2 l2 h2 => hb H2 (l.trans l2) _ fun w H3 l3 h3 => ?_)
  obtain ⟨_, e, h2⟩ := h2
  cases e
  obtain ⟨p, xs, rfl, hp, hx⟩ := (h2.mono l3.tk).inv_tup
  obtain ⟨_, e, h3⟩ := h3
  cases e
  obtain rfl := h3.inv_int
  obtain ⟨v, e1, e2⟩ := hx.atI hi
  exact ⟨p, xs, i, v, rfl, rfl, SqT.of hp, e1, q v H3 (l2.trans l3) ⟨v, rfl, e2⟩⟩
/-- l[i], l a list just made -/
theorem ev_ixN {ds : List PyData} {i : Int} (ha : EvL T X a σ H ds) (hb : EvD T X b σ H (.int i)) (hi : atI ds i = some d) (hs : PlainIx b := by exact fun _ _ => rfl) : EvD T X (.Subscript a b pos) σ H d := fun H1 l Q q => by
  refine w_pe (pe_ix ix_list pe_w pe_w hs) (ha H1 l _ fun p xs H2 _ l2 hp hx => hb H2 (l.trans l2) _ fun w H3 l3 h3 => ?_)
  obtain ⟨_, e, h3⟩ := h3
  cases e
  obtain rfl := h3.inv_int
  obtain ⟨v, e1, e2⟩ := (hx.mono l3.tk).atI hi
  exact ⟨p, xs, i, v, rfl, rfl, SqL.of (l3.lst hp), e1, q v H3 (l2.trans l3) ⟨v, rfl, e2⟩⟩
/-- l[i], l a list that stands -/
theorem ev_ixL {ds : List PyData} {i : Int} {r : Addr} {xs : List V} (ha : Ev T X a σ H (.v (.ref r))) (hr : H r = some (.lst xs)) (hx : DtL H xs ds) (hb : EvD T X b σ H (.int i)) (hi : atI ds i = some d) (hs : PlainIx b := by exact fun _ _ => rfl) : EvD T X (.Subscript a b pos) σ H d := fun H1 l Q q => by
  refine w_pe (pe_ix ix_list pe_w pe_w hs) (ha H1 l _ fun v H2 l2 h2 => hb H2 (l.trans l2) _ fun w H3 l3 h3 => ?_)
  have h2' : some v = some (V.ref r) := h2
  cases h2'
  obtain ⟨_, e, h3⟩ := h3
  cases e
  obtain rfl := h3.inv_int
  have l' := (l.trans l2).trans l3
  obtain ⟨v, e1, e2⟩ := (hx.mono l'.tk).atI hi
  exact ⟨r, xs, i, v, rfl, rfl, SqL.of (l'.lst hr), e1, q v H3 (l2.trans l3) ⟨v, rfl, e2⟩⟩

/-! operators -/
theorem ev_op {op : Operator} {r : R2} (ho : OpR X (binaryOp op) r) (ha : EvD T X a σ H d) (hb : EvD T X b σ H d')
    (hr : ∀ v w H3 (Q : VK), Le T H H3 → Dt H3 v d → Dt H3 w d' → (∀ z H4, Le T H3 H4 → Dt H4 z d'' → Q z H4) → r v w H3 Q) : EvD T X (.BinOp a op b pos) σ H d'' := fun H1 l Q q => by
  refine w_pe (pe_op ho pe_w pe_w) (ha H1 l _ fun v H2 l2 h2 => hb H2 (l.trans l2) _ fun w H3 l3 h3 => ?_)
  obtain ⟨_, e, h2⟩ := h2
  cases e
  obtain ⟨_, e, h3⟩ := h3
  cases e
  exact hr v w H3 Q ((l.trans l2).trans l3) (h2.mono l3.tk) h3 fun z H4 l4 h4 => q z H4 ((l2.trans l3).trans l4) ⟨z, rfl, h4⟩
theorem ev_I0 {op : Operator} {f : Int → Int → Int} {i j : Int} (ho : OpR X (binaryOp op) (rI0 fun i j => .int (f i j))) (ha : EvD T X a σ H (.int i)) (hb : EvD T X b σ H (.int j)) : EvD T X (.BinOp a op b pos) σ H (.int (f i j)) :=
  ev_op ho ha hb fun v w H3 Q _ h2 h3 q => by
    obtain rfl := h2.inv_int
    obtain rfl := h3.inv_int
    exact ⟨i, j, rfl, rfl, q _ _ (.refl _) (.int _)⟩
theorem ev_I {op : Operator} {C : Int → Int → Prop} {f : Int → Int → Int} {i j : Int} (ho : OpR X (binaryOp op) (rI C fun i j => .int (f i j))) (ha : EvD T X a σ H (.int i)) (hb : EvD T X b σ H (.int j)) (hc : C i j) : EvD T X (.BinOp a op b pos) σ H (.int (f i j)) :=
  ev_op ho ha hb fun v w H3 Q _ h2 h3 q => by
    obtain rfl := h2.inv_int
    obtain rfl := h3.inv_int
    exact ⟨i, j, rfl, rfl, hc, q _ _ (.refl _) (.int _)⟩
theorem ev_add {i j : Int} (ha : EvD T X a σ H (.int i)) (hb : EvD T X b σ H (.int j)) : EvD T X (.BinOp a .Add b pos) σ H (.int (i + j)) := ev_I0 (f := fun i j => i + j) op_add ha hb
theorem ev_sub {i j : Int} (ha : EvD T X a σ H (.int i)) (hb : EvD T X b σ H (.int j)) : EvD T X (.BinOp a .Sub b pos) σ H (.int (i - j)) := ev_I0 (f := fun i j => i - j) op_sub ha hb
theorem ev_neg {i : Int} (ha : EvD T X a σ H (.int i)) : EvD T X (.UnaryOp .USub a pos) σ H (.int (-i)) := fun H1 l Q q => by
  refine w_pe (pe_un un_neg pe_w) (ha H1 l _ fun v H2 l2 h2 => ?_)
  obtain ⟨_, e, h2⟩ := h2
  cases e
  obtain rfl := h2.inv_int
  exact ⟨i, rfl, q _ _ l2 ⟨_, rfl, .int _⟩⟩

/-! comparisons -/
theorem eb_cmp {op : CmpOp} {r : R2} {k : Bool} (ho : OpR X (compareOp op) r) (ha : Ev T X a σ H s) (hb : Ev T X b σ H s') (hm : behindInMarks op b = false)
    (hr : ∀ v w H3 (Q : VK), Le T H H3 → SlOk H3 (some v) s → SlOk H3 (some w) s' → Q (.bl k) H3 → r v w H3 Q) : EB T X (.Compare a [op] [b] pos) σ H k := by
  refine ⟨fun H1 l Q q => ?_, fun H1 l Q q => ?_⟩
  · refine w_pe (pe_cmpR ho pe_w pe_w hm) (ha H1 l _ fun v H2 l2 h2 => hb H2 (l.trans l2) _ fun w H3 l3 h3 => ?_)
    exact hr v w H3 Q ((l.trans l2).trans l3) (h2.mono l3.tk) h3 (q _ _ (l2.trans l3) ⟨_, rfl, .bl k⟩)
  · refine w_pt (pt_cmpR ho pe_w pe_w hm) (ha H1 l _ fun v H2 l2 h2 => hb H2 (l.trans l2) _ fun w H3 l3 h3 => ?_)
    exact hr v w H3 _ ((l.trans l2).trans l3) (h2.mono l3.tk) h3 ⟨k, rfl, q _ (l2.trans l3)⟩
theorem eb_I0 {op : CmpOp} {f : Int → Int → Bool} {i j : Int} (ho : OpR X (compareOp op) (rI0 fun i j => .bl (f i j))) (ha : EvD T X a σ H (.int i)) (hb : EvD T X b σ H (.int j)) (hm : behindInMarks op b = false) : EB T X (.Compare a [op] [b] pos) σ H (f i j) :=
  eb_cmp ho ha hb hm fun v w H3 Q _ h2 h3 q => by
    obtain ⟨_, e, h2⟩ := h2
    cases e
    obtain ⟨_, e, h3⟩ := h3
    cases e
    obtain rfl := h2.inv_int
    obtain rfl := h3.inv_int
    exact ⟨i, j, rfl, rfl, q⟩
theorem eb_lt {i j : Int} (ha : EvD T X a σ H (.int i)) (hb : EvD T X b σ H (.int j)) : EB T X (.Compare a [.Lt] [b] pos) σ H (decide (i < j)) := eb_I0 (f := fun i j => decide (i < j)) op_lt ha hb (nomark _)
theorem eb_le {i j : Int} (ha : EvD T X a σ H (.int i)) (hb : EvD T X b σ H (.int j)) : EB T X (.Compare a [.LtE] [b] pos) σ H (decide (i ≤ j)) := eb_I0 (f := fun i j => decide (i ≤ j)) op_le ha hb (nomark _)
theorem eb_gt {i j : Int} (ha : EvD T X a σ H (.int i)) (hb : EvD T X b σ H (.int j)) : EB T X (.Compare a [.Gt] [b] pos) σ H (decide (j < i)) := eb_I0 (f := fun i j => decide (j < i)) op_gt ha hb (nomark _)
theorem eb_ge {i j : Int} (ha : EvD T X a σ H (.int i)) (hb : EvD T X b σ H (.int j)) : EB T X (.Compare a [.GtE] [b] pos) σ H (decide (j ≤ i)) := eb_I0 (f := fun i j => decide (j ≤ i)) op_ge ha hb (nomark _)
/-- == and != of data -/
theorem eb_eq (hu : X.A.units + 64 < cLine) (ha : EvD T X a σ H d) (hb : EvD T X b σ H d') (s1 : SeqAt.shaped d = true) (s2 : SeqAt.shaped d' = true) : EB T X (.Compare a [.Eq] [b] pos) σ H (PyData.eqv d d') :=
  eb_cmp (op_eqD hu) ha hb (nomark _) fun v w H3 Q _ h2 h3 q => by
    obtain ⟨_, e, h2⟩ := h2
    cases e
    obtain ⟨_, e, h3⟩ := h3
    cases e
    exact ⟨d, d', h2.dp, h3.dp, s1, s2, q⟩
theorem eb_ne (hu : X.A.units + 64 < cLine) (ha : EvD T X a σ H d) (hb : EvD T X b σ H d') (s1 : SeqAt.shaped d = true) (s2 : SeqAt.shaped d' = true) : EB T X (.Compare a [.NotEq] [b] pos) σ H (!PyData.eqv d d') :=
  eb_cmp (op_neD hu) ha hb (nomark _) fun v w H3 Q _ h2 h3 q => by
    obtain ⟨_, e, h2⟩ := h2
    cases e
    obtain ⟨_, e, h3⟩ := h3
    cases e
    exact ⟨d, d', h2.dp, h3.dp, s1, s2, q⟩
/-- x is None, x is not None -/
theorem eb_isN {j : Nat} {v : V} (ha : Ev T X a σ H (.v v)) : EB T X (.Compare a [.Is] [.Constant .none j p2] pos) σ H (decide (v = .non)) :=
  eb_cmp op_isN ha ev_non (nomark _) fun v' w H3 Q _ h2 h3 q => by
    have h2' : some v' = some v := h2
    cases h2'
    obtain ⟨_, e, h3⟩ := h3
    cases e
    obtain rfl := h3.inv_non
    exact ⟨rfl, q⟩
theorem eb_notN {j : Nat} {v : V} (ha : Ev T X a σ H (.v v)) : EB T X (.Compare a [.IsNot] [.Constant .none j p2] pos) σ H (!decide (v = .non)) :=
  eb_cmp op_notN ha ev_non (nomark _) fun v' w H3 Q _ h2 h3 q => by
    have h2' : some v' = some v := h2
    cases h2'
    obtain ⟨_, e, h3⟩ := h3
    cases e
    obtain rfl := h3.inv_non
    exact ⟨rfl, q⟩

/-! truth -/
theorem eb_val {k : Bool} (h : EvD T X e σ H (.bool k)) (he : ∀ whole, isTrue e X.env whole = (do let v ← whole; standAt e.pos; holding [v] (truthy v)) := by intro _; rfl) : EB T X e σ H k := by
  refine ⟨h, fun H1 l Q q => ?_⟩
  refine w_pt (pt_val pe_w he) (h H1 l _ fun v H2 l2 h2 => ?_)
  obtain ⟨_, e, h2⟩ := h2
  cases e
  obtain rfl := h2.inv_bl
  exact ⟨k, rfl, q _ l2⟩
theorem ew_and1 {k : Bool} (h : EB T X a σ H k) : EBW T X (.BoolOp .And [a] pos) σ H k := ⟨fun H1 l Q q => w_pe (pe_one pe_w) (h.v H1 l Q q), fun H1 l Q q => w_pw (pw_and1 pt_w) (h.t H1 l Q q)⟩
theorem ew_or1 {k : Bool} (h : EB T X a σ H k) : EBW T X (.BoolOp .Or [a] pos) σ H k := ⟨fun H1 l Q q => w_pe (pe_one pe_w) (h.v H1 l Q q), fun H1 l Q q => w_pw (pw_or1 pt_w) (h.t H1 l Q q)⟩
theorem ew_and {k k' : Bool} (ha : EB T X a σ H k) (hb : k = true → EBW T X (.BoolOp .And (b :: es) pos) σ H k') : EBW T X (.BoolOp .And (a :: b :: es) pos) σ H (k && k') := by
  refine ⟨fun H1 l Q q => ?_, fun H1 l Q q => ?_⟩
  · refine w_pe (pe_and pe_w pe_w) (ha.v H1 l _ fun v H2 l2 h2 => ?_)
    obtain ⟨_, e, h2⟩ := h2
    cases e
    obtain rfl := h2.inv_bl
    refine ⟨k, rfl, ?_⟩
    cases k with
    | true => exact (hb rfl).v H2 (l.trans l2) Q fun v H3 l3 h3 => q v H3 (l2.trans l3) h3
    | false => exact q _ H2 l2 ⟨_, rfl, .bl _⟩
  · refine w_pw (pw_and pt_w pw_w) (ha.t H1 l _ fun H2 l2 => ?_)
    cases k with
    | true => exact (hb rfl).w H2 (l.trans l2) Q fun H3 l3 => q H3 (l2.trans l3)
    | false => exact q H2 l2
theorem ew_or {k k' : Bool} (ha : EB T X a σ H k) (hb : k = false → EBW T X (.BoolOp .Or (b :: es) pos) σ H k') : EBW T X (.BoolOp .Or (a :: b :: es) pos) σ H (k || k') := by
  refine ⟨fun H1 l Q q => ?_, fun H1 l Q q => ?_⟩
  · refine w_pe (pe_or pe_w pe_w) (ha.v H1 l _ fun v H2 l2 h2 => ?_)
    obtain ⟨_, e, h2⟩ := h2
    cases e
    obtain rfl := h2.inv_bl
    refine ⟨k, rfl, ?_⟩
    cases k with
    | false => exact (hb rfl).v H2 (l.trans l2) Q fun v H3 l3 h3 => q v H3 (l2.trans l3) h3
    | true => exact q _ H2 l2 ⟨_, rfl, .bl _⟩
  · refine w_pw (pw_or pt_w pw_w) (ha.t H1 l _ fun H2 l2 => ?_)
    cases k with
    | false => exact (hb rfl).w H2 (l.trans l2) Q fun H3 l3 => q H3 (l2.trans l3)
    | true => exact q H2 l2
theorem eb_and {k k' : Bool} (ha : EB T X a σ H k) (hb : k = true → EB T X b σ H k') : EB T X (.BoolOp .And [a, b] pos) σ H (k && k') := (ew_and ha fun h => ew_and1 (hb h)).eb
theorem eb_or {k k' : Bool} (ha : EB T X a σ H k) (hb : k = false → EB T X b σ H k') : EB T X (.BoolOp .Or [a, b] pos) σ H (k || k') := (ew_or ha fun h => ew_or1 (hb h)).eb
theorem eb_and3 {k k' k2 : Bool} (ha : EB T X a σ H k) (hb : k = true → EB T X b σ H k') (hc : k = true → k' = true → EB T X c σ H k2) : EB T X (.BoolOp .And [a, b, c] pos) σ H (k && (k' && k2)) := (ew_and ha fun h => ew_and (hb h) fun h' => ew_and1 (hc h h')).eb
theorem eb_or3 {k k' k2 : Bool} (ha : EB T X a σ H k) (hb : k = false → EB T X b σ H k') (hc : k = false → k' = false → EB T X c σ H k2) : EB T X (.BoolOp .Or [a, b, c] pos) σ H (k || (k' || k2)) := (ew_or ha fun h => ew_or (hb h) fun h' => ew_or1 (hc h h')).eb
theorem eb_not {k : Bool} (h : EB T X a σ H k) : EB T X (.UnaryOp .Not a pos) σ H (!k) := by
  refine ⟨fun H1 l Q q => ?_, fun H1 l Q q => ?_⟩
  · refine w_pe (pe_not pe_w) (h.v H1 l _ fun v H2 l2 h2 => ?_)
    obtain ⟨_, e, h2⟩ := h2
    cases e
    obtain rfl := h2.inv_bl
    exact ⟨k, rfl, q _ H2 l2 ⟨_, rfl, .bl _⟩⟩
  · exact w_pt (pt_not pt_w) (h.t H1 l _ fun H2 l2 => q H2 l2)
/-- a if c else b -/
theorem ev_if {k : Bool} (hc : EvT T X c σ H k) (ha : k = true → Ev T X a σ H s) (hb : k = false → Ev T X b σ H s) : Ev T X (.IfExp c a b pos) σ H s := fun H1 l Q q => by
  refine w_pe (pe_ifExp pt_w pe_w pe_w) (hc H1 l _ fun H2 l2 => ?_)
  cases k with
  | true => exact ha rfl H2 (l.trans l2) Q fun v H3 l3 h3 => q v H3 (l2.trans l3) h3
  | false => exact hb rfl H2 (l.trans l2) Q fun v H3 l3 h3 => q v H3 (l2.trans l3) h3
/-- a <= b <= c and its like, of ints -/
theorem eb_chain {op op' : CmpOp} {f f' : Int → Int → Bool} {i j k : Int} (ho : OpR X (compareOp op) (rI0 fun i j => .bl (f i j))) (ho' : OpR X (compareOp op') (rI0 fun i j => .bl (f' i j))) (ha : EvD T X a σ H (.int i)) (hb : EvD T X b σ H (.int j)) (hc : EvD T X c σ H (.int k))
    (hm : lastMarks [op, op'] [b, c] = false := by with_unfolding_all rfl) : EB T X (.Compare a [op, op'] [b, c] pos) σ H (f i j && f' j k) := by
  have key : ∀ H1 (R : VK), Le T H H1 → (∀ H2, Le T H1 H2 → R (.bl (f i j && f' j k)) H2) → tChain (rI0 fun i j => .bl (f i j)) (rI0 fun i j => .bl (f' i j)) (wE X a) (wE X b) (wE X c) σ H1 R := by
    intro H1 R l q
    refine ha H1 l _ fun v H2 l2 h2 => hb H2 (l.trans l2) _ fun w H3 l3 h3 => ?_
    obtain ⟨_, e, h2⟩ := h2
    cases e
    obtain rfl := h2.inv_int
    obtain ⟨_, e, h3⟩ := h3
    cases e
    obtain rfl := h3.inv_int
    refine ⟨i, j, rfl, rfl, f i j, rfl, ?_⟩
    cases hf : f i j with
    | true =>
      rw [if_pos rfl]
      refine hc H3 ((l.trans l2).trans l3) _ fun u H4 l4 h4 => ?_
      obtain ⟨_, e, h4⟩ := h4
      cases e
      obtain rfl := h4.inv_int
      have := q H4 ((l2.trans l3).trans l4)
      rw [hf] at this
      exact ⟨j, k, rfl, rfl, this⟩
    | false =>
      rw [if_neg Bool.false_ne_true]
      have := q H3 (l2.trans l3)
      rw [hf] at this
      exact this
  refine ⟨fun H1 l Q q => ?_, fun H1 l Q q => ?_⟩
  · exact w_pe (pe_chain ho ho' pe_w pe_w pe_w hm) (key H1 Q l fun H2 l2 => q _ H2 l2 ⟨_, rfl, .bl _⟩)
  · exact w_pt (pt_chain ho ho' pe_w pe_w pe_w hm) (key H1 _ l fun H2 l2 => ⟨_, rfl, q H2 l2⟩)
end
end RF
set_option Elab.async false
set_option linter.all false
set_option maxRecDepth 100000
namespace RF
open PySem PySem.Spec L2 LamX
open PyProof.Rows hiding St

/-- what the running code's context must be -/
structure Fx (X : Cx) : Prop where
  nd : X.N.Nodup
  calm : X.calm = true
  po : PassesOwn (model X.prog X.w) X.A X.env X.xe
/-- a comprehension's block -/
def Blk (X : Cx) (scope : Scope) (Xb : Cx) : Prop := ∃ (s : Shared) (H : Hp) (C : Addr) (cl : List (Str × Addr)) (fp : List Addr), Xb = X.blk s H scope (compEnvC scope cl C X.env) fp
theorem Fx.blk {X Xb : Cx} {scope : Scope} (c : Fx X) (h : Blk X scope Xb) : Fx Xb := by
  obtain ⟨s, H, C, cl, fp, rfl⟩ := h
  exact ⟨c.nd, c.calm, PassesOwn.never⟩

section
variable {T : List (Addr × Str)} {X : Cx} {e a b c : Expr} {es : List Expr} {σ : St} {H H' : Hp} {δ : List Sl} {s s' : Sl} {d d' : PyData} {pos p p2 : Pos} {st : Stmt} {rest : List Stmt} {D : Ends}

/-! ### blocks -/
theorem s_nil (h : D.nx σ H) : wSs X [] D σ H := w_pss pss_nil h
theorem s_cons (h : wS X st { D with nx := wSs X rest D } σ H) : wSs X (st :: rest) D σ H := w_pss (pss_cons ps_w pss_w) h
/-- name = e -/
theorem s_set (c : Fx X) (i : Nat) (g : Sg H σ δ) {x : Str} {pos' : Pos} (h : Ev T X e σ H s) (k : ∀ v σ' H', Le T H H' → SlOk H' (some v) s → Sg H' σ' (δ.set i s) → wSs X rest D σ' H') (hi : X.N[i]? = some x := by rfl)
    (hx : Loc X.env.scope x := by first | exact Or.inl rfl | exact Or.inr rfl) (hs : swapsWith e (some (.Name x pos')) pos.line X.env = pure false := by rfl) (hf : X.fn x = true ∨ X.env.scope.names.lookup x = some .local := by first | exact .inl rfl | exact .inr rfl) :
    wSs X (.Assign [.Name x pos'] e pos :: rest) D σ H := by
  refine s_cons (w_ps (ps_set c.nd hi hx pe_w hs hf) ?_)
  exact h H (.refl H) _ fun v H2 l h2 => k v _ H2 l h2 ((g.mono l.tk).set h2 i)
theorem s_setN (c : Fx X) (i : Nat) (g : Sg H σ δ) {x : Str} {pos' : Pos} {ds : List PyData} (h : EvL T X e σ H ds) (k : ∀ p xs σ' H', H p = none → Le T H H' → H' p = some (.lst xs) → DtL H' xs ds → Sg H' σ' (δ.set i (.v (.ref p))) → wSs X rest D σ' H') (hi : X.N[i]? = some x := by rfl)
    (hx : Loc X.env.scope x := by first | exact Or.inl rfl | exact Or.inr rfl) (hs : swapsWith e (some (.Name x pos')) pos.line X.env = pure false := by rfl) (hf : X.fn x = true ∨ X.env.scope.names.lookup x = some .local := by first | exact .inl rfl | exact .inr rfl) :
    wSs X (.Assign [.Name x pos'] e pos :: rest) D σ H := by
  refine s_cons (w_ps (ps_set c.nd hi hx pe_w hs hf) ?_)
  exact h H (.refl H) _ fun p xs H2 hp l h2 hd => k p xs _ H2 hp l h2 hd ((g.mono l.tk).set (s := .v (.ref p)) rfl i)
theorem s_ret (h : Ev T X e σ H s) (k : ∀ v H', Le T H H' → SlOk H' (some v) s → D.rt v H') : wSs X (.Return (some e) pos :: rest) D σ H :=
  s_cons (w_ps (ps_ret pe_w) (h H (.refl H) _ k))
theorem s_retN (h : D.rt .non H) : wSs X (.Return none pos :: rest) D σ H := s_cons (w_ps ps_retN h)
theorem s_if {k : Bool} {A B : List Stmt} (h : EvT T X c σ H k) (h1 : k = true → ∀ H', Le T H H' → wSs X A { D with nx := wSs X rest D } σ H') (h2 : k = false → ∀ H', Le T H H' → wSs X B { D with nx := wSs X rest D } σ H') : wSs X (.If c A B pos :: rest) D σ H := by
  refine s_cons (w_ps (ps_if pt_w pss_w pss_w) (h H (.refl H) _ fun H2 l => ?_))
  cases k with
  | true => exact h1 rfl H2 l
  | false => exact h2 rfl H2 l
theorem s_expr (h : Ev T X e σ H s) (k : ∀ H', Le T H H' → wSs X rest D σ H') (hs : swapsWith e none pos.line X.env = pure false := by rfl) : wSs X (.Expr e pos :: rest) D σ H :=
  s_cons (w_ps (ps_expr pe_w hs) (h H (.refl H) _ fun _ H2 l _ => k H2 l))
/-- l.append(e) -/
theorem s_append {o : Expr} {q : Addr} {xs : List V} {p3 : Pos} (ho : Ev T X o σ H (.v (.ref q))) (hq : H q = some (.lst xs)) (hl : xs.length < 100000) (he : Ev T X e σ H s)
    (k : ∀ v H', Le T H H' → SlOk H' (some v) s → wSs X rest D σ (upd H' q (.lst (xs ++ [v]))))
    (hbm : PE X (.Call (.Attribute o "append" p2) [e] [] p3) (tBM X.K "list" rAppend (wE X o) (wA X [e])) := by exact pe_bm PySem.F.plainAttrs_list PySem.F.slot_list_append PySem.F.type_list_append mt_append pe_w pa_w)
    (hst : starEach [e] X.env = (false, eval e X.env) :: starEach [] X.env := by rfl) (hs : swapsWith (.Call (.Attribute o "append" p2) [e] [] p3) none pos.line X.env = pure false := by rfl) :
    wSs X (.Expr (.Call (.Attribute o "append" p2) [e] [] p3) pos :: rest) D σ H := by
  refine s_cons (w_ps (ps_expr hbm hs) ?_)
  refine ho H (.refl H) _ fun v H2 l2 h2 => ?_
  have h2' : some v = some (V.ref q) := h2
  cases h2'
  have hq2 := l2.lst hq
  refine ⟨.inl ⟨rfl, xs, SqL.of hq2⟩, ?_⟩
  refine w_pa (pa_cons pe_w pa_nil hst) (he H2 l2 _ fun v H3 l3 h3 => ?_)
  exact ⟨q, xs, v, rfl, rfl, l3.lst hq2, Nat.lt_of_lt_of_le hl (by decide), k v H3 (l2.trans l3) h3⟩

/-! ### targets -/
theorem g_name (c : Fx X) (j : Nat) (g : Sg H σ δ) {v : V} {x : Str} {Q : St → Hp → Prop} (hv : SlOk H (some v) s) (k : ∀ σ', Sg H σ' (δ.set j s) → Q σ' H) (hi : X.N[j]? = some x := by rfl) (hx : Loc X.env.scope x := by first | exact Or.inl rfl | exact Or.inr rfl)
    (hf : X.fn x = true ∨ X.env.scope.names.lookup x = some .local := by first | exact .inl rfl | exact .inr rfl) : wG X (.Name x pos) v σ H Q :=
  w_pg (pg_name c.nd hi hx hf) (k _ (g.set hv j))
theorem g_tup2 (c : Fx X) (i j : Nat) (g : Sg H σ δ) {v : V} {x y : Str} {d e : PyData} {kk : Nat} {Q : St → Hp → Prop} (hv : SlOk H (some v) (.d (.tuple [d, e]))) (k : ∀ σ', Sg H σ' ((δ.set i (.d d)).set j (.d e)) → Q σ' H) (hi : X.N[i]? = some x := by rfl) (hj : X.N[j]? = some y := by rfl)
    (hx : Loc X.env.scope x := by first | exact Or.inl rfl | exact Or.inr rfl) (hy : Loc X.env.scope y := by first | exact Or.inl rfl | exact Or.inr rfl)
    (hf : X.fn x = true ∨ X.env.scope.names.lookup x = some .local := by first | exact .inl rfl | exact .inr rfl) (hf' : X.fn y = true ∨ X.env.scope.names.lookup y = some .local := by first | exact .inl rfl | exact .inr rfl) : wG X (.Tuple [.Name x p, .Name y p2] kk pos) v σ H Q := by
  refine w_pg (pg_tup c.calm (pgs_cons (pg_name c.nd hi hx hf) (pgs_cons (pg_name c.nd hj hy hf') pgs_nil))) ?_
  obtain ⟨_, e, h⟩ := hv
  cases e
  obtain ⟨a, xs, rfl, ha, hd⟩ := h.inv_tup
  cases hd with
  | cons h1 t =>
    cases t with
    | cons h2 t =>
      cases t
      exact ⟨a, _, rfl, SqT.of ha, rfl, _, _, rfl, _, _, rfl, rfl, k _ (((g.set (s := .d d) ⟨_, rfl, h1⟩ i)).set (s := .d e) ⟨_, rfl, h2⟩ j)⟩
theorem g_tup3 (c : Fx X) (i j l : Nat) (g : Sg H σ δ) {v : V} {x y z : Str} {d e f : PyData} {kk : Nat} {p3 : Pos} {Q : St → Hp → Prop} (hv : SlOk H (some v) (.d (.tuple [d, e, f]))) (k : ∀ σ', Sg H σ' (((δ.set i (.d d)).set j (.d e)).set l (.d f)) → Q σ' H) (hi : X.N[i]? = some x := by rfl) (hj : X.N[j]? = some y := by rfl) (hl : X.N[l]? = some z := by rfl)
    (hx : Loc X.env.scope x := by first | exact Or.inl rfl | exact Or.inr rfl) (hy : Loc X.env.scope y := by first | exact Or.inl rfl | exact Or.inr rfl) (hz : Loc X.env.scope z := by first | exact Or.inl rfl | exact Or.inr rfl)
    (hf : X.fn x = true ∨ X.env.scope.names.lookup x = some .local := by first | exact .inl rfl | exact .inr rfl) (hf' : X.fn y = true ∨ X.env.scope.names.lookup y = some .local := by first | exact .inl rfl | exact .inr rfl) (hf2 : X.fn z = true ∨ X.env.scope.names.lookup z = some .local := by first | exact .inl rfl | exact .inr rfl) :
    wG X (.Tuple [.Name x p, .Name y p2, .Name z p3] kk pos) v σ H Q := by
  refine w_pg (pg_tup c.calm (pgs_cons (pg_name c.nd hi hx hf) (pgs_cons (pg_name c.nd hj hy hf') (pgs_cons (pg_name c.nd hl hz hf2) pgs_nil)))) ?_
  obtain ⟨_, e, h⟩ := hv
  cases e
  obtain ⟨a, xs, rfl, ha, hd⟩ := h.inv_tup
  cases hd with
  | cons h1 t =>
    cases t with
    | cons h2 t =>
      cases t with
      | cons h3 t =>
        cases t
        exact ⟨a, _, rfl, SqT.of ha, rfl, _, _, rfl, _, _, rfl, _, _, rfl, rfl, k _ ((((g.set (s := .d d) ⟨_, rfl, h1⟩ i)).set (s := .d e) ⟨_, rfl, h2⟩ j).set (s := .d f) ⟨_, rfl, h3⟩ l)⟩
/-- target = e -/
theorem s_asg {tg : Expr} (h : Ev T X e σ H s) (k : ∀ v H', Le T H H' → SlOk H' (some v) s → wG X tg v σ H' (wSs X rest D)) (hs : swapsWithSole [tg] e pos.line X.env = pure false := by rfl) (hw : swappedStores [tg] e X.env = pure none := by rfl)
    (h1 : (assignEach [tg] X.env).map (·.2) = [assign tg X.env] := by rfl) : wSs X (.Assign [tg] e pos :: rest) D σ H := by
  refine s_cons (w_ps (ps_asg pe_w pg_w hs hw h1) ?_)
  exact h H (.refl H) _ fun v H2 l h2 => k v H2 l h2

/-! ### what is walked -/
def wI (X : Cx) (tg iter : Expr) : TI := fun σ H R => ∀ (pins : List (Addr × Obj)) (s : Shared), Inv X pins σ H s →
  wpAny (model X.prog X.w) X.A (eval iter X.env) (fun v s1 => wpAny (model X.prog X.w) X.A (pyIter v) (PIE X pins σ tg R) X.xe s1) X.xe s
theorem pi_w {tg : Expr} : PI X tg e (wI X tg e) := ⟨fun pins s _ _ _ I h => h pins s I⟩
theorem w_pi {tg : Expr} {t : TI} {R : It → Hp → Prop} (p : PI X tg e t) (q : t σ H R) : wI X tg e σ H R := fun pins s I => p.run pins s σ H R I q
/-- kept: the tuples and the lists of S -/
def Kp (S : Addr → Prop) (H H' : Hp) : Prop := Tk H H' ∧ ∀ p xs, S p → H p = some (.lst xs) → H' p = some (.lst xs)
theorem Kp.of {S : Addr → Prop} (l : Le T H H') : Kp S H H' := ⟨l.tk, fun _ _ _ h => l.lst h⟩
structure WalkOk {α : Type} (T : List (Addr × Str)) (J : It) (S : Addr → Prop) (H2 : Hp) (enc : α → PyData) (L : List α) : Prop where
  go : ∀ H' i x, Kp S H2 H' → L[i]? = some x → J.go i H' ∧ ∀ v H'', J.yld i H' v H'' → Le T H' H'' ∧ Dt H'' v (enc x)
  stop : ∀ H' i, Kp S H2 H' → L.length ≤ i → J.stop i H'
def EvI {α : Type} (T : List (Addr × Str)) (X : Cx) (tg e : Expr) (σ : St) (H : Hp) (S : Addr → Prop) (enc : α → PyData) (L : List α) : Prop :=
  ∀ H1, Le T H H1 → ∀ R : It → Hp → Prop, (∀ J H2, Le T H1 H2 → WalkOk T J S H2 enc L → R J H2) → wI X tg e σ H1 R
section
variable {α : Type} {enc : α → PyData} {L : List α} {tg : Expr}
abbrev S0 : Addr → Prop := fun _ => False
/-- over a tuple -/
theorem ei_tup (h : EvD T X e σ H (.tuple (L.map enc))) : EvI T X tg e σ H S0 enc L := fun H1 l R q => by
  refine w_pi (pi_tup pe_w) (h H1 l _ fun v H2 l2 h2 => ?_)
  obtain ⟨_, e, h2⟩ := h2
  cases e
  obtain ⟨a, xs, rfl, ha, hd⟩ := h2.inv_tup
  refine ⟨a, rfl, ⟨xs, SqT.of ha⟩, q _ H2 l2 ⟨fun H' i x kp hx => ?_, fun H' i kp hi => ⟨xs, SqT.of (kp.1 _ _ ha), ?_⟩⟩⟩
  · obtain ⟨v, hv, dv⟩ := (hd.mono kp.1).get (i := i) (d := enc x) (by rw [List.getElem?_map, hx]; rfl)
    refine ⟨⟨xs, v, SqT.of (kp.1 _ _ ha), hv⟩, fun w H'' y => ?_⟩
    obtain ⟨rfl, y2⟩ := y
    have := y2 xs (SqT.of (kp.1 _ _ ha))
    rw [hv] at this
    cases this
    exact ⟨.refl _, dv⟩
  · rw [hd.len, List.length_map]
    exact hi
/-- over a list that stands -/
theorem ei_lst {r : Addr} {xs : List V} (h : Ev T X e σ H (.v (.ref r))) (hr : H r = some (.lst xs)) (hd : DtL H xs (L.map enc)) : EvI T X tg e σ H (fun p => p = r) enc L := fun H1 l R q => by
  refine w_pi (pi_list pe_w) (h H1 l _ fun v H2 l2 h2 => ?_)
  have h2' : some v = some (V.ref r) := h2
  cases h2'
  have hr2 := (l.trans l2).lst hr
  have hd2 := hd.mono (l.trans l2).tk
  refine ⟨r, rfl, ⟨xs, SqL.of hr2⟩, q _ H2 l2 ⟨fun H' i x kp hx => ?_, fun H' i kp hi => ⟨xs, SqL.of (kp.2 _ _ rfl hr2), ?_⟩⟩⟩
  · obtain ⟨v, hv, dv⟩ := (hd2.mono kp.1).get (i := i) (d := enc x) (by rw [List.getElem?_map, hx]; rfl)
    refine ⟨⟨xs, v, SqL.of (kp.2 _ _ rfl hr2), hv⟩, fun w H'' y => ?_⟩
    obtain ⟨rfl, y2⟩ := y
    have := y2 xs (SqL.of (kp.2 _ _ rfl hr2))
    rw [hv] at this
    cases this
    exact ⟨.refl _, dv⟩
  · rw [hd2.len, List.length_map]
    exact hi
/-- over a list just made -/
theorem ei_new (h : EvL T X e σ H (L.map enc)) : EvI T X tg e σ H (fun p => H p = none) enc L := fun H1 l R q => by
  refine w_pi (pi_list pe_w) (h H1 l _ fun r xs H2 hn l2 hr2 hd2 => ?_)
  have hrn : H r = none := l.fr r hn
  refine ⟨r, rfl, ⟨xs, SqL.of hr2⟩, q _ H2 l2 ⟨fun H' i x kp hx => ?_, fun H' i kp hi => ⟨xs, SqL.of (kp.2 _ _ hrn hr2), ?_⟩⟩⟩
  · obtain ⟨v, hv, dv⟩ := (hd2.mono kp.1).get (i := i) (d := enc x) (by rw [List.getElem?_map, hx]; rfl)
    refine ⟨⟨xs, v, SqL.of (kp.2 _ _ hrn hr2), hv⟩, fun w H'' y => ?_⟩
    obtain ⟨rfl, y2⟩ := y
    have := y2 xs (SqL.of (kp.2 _ _ hrn hr2))
    rw [hv] at this
    cases this
    exact ⟨.refl _, dv⟩
  · rw [hd2.len, List.length_map]
    exact hi
abbrev encN : Nat → PyData := fun i => .int (i : Int)
theorem ei_range1 {n : Nat} (h : EvA T X [a] σ H [.d (.int (n : Int))]) (hn : n < 2 ^ 62) (hm : X.mg "range" = none) (hg : Gl X "range" := by rfl) (hs : starEach [a] X.env = [(false, eval a X.env)] := by rfl) :
    EvI T X tg (.Call (.Name "range" p) [a] [] pos) σ H S0 encN (List.range n) := fun H1 l R q => by
  refine w_pi (pi_range1 hg hm pa_w hs) (h H1 l _ fun vs H2 l2 h2 => ?_)
  cases h2 with
  | cons h3 t =>
    cases t
    obtain ⟨_, e, h3⟩ := h3
    cases e
    obtain rfl := h3.inv_int
    refine ⟨n, rfl, by omega, by omega, q _ H2 l2 ⟨fun H' i x kp hx => ?_, fun H' i kp hi => ?_⟩⟩
    · have hi : i < n := by
        have := (List.getElem?_eq_some_iff.mp hx).1
        rwa [List.length_range] at this
      have hx' : x = i := by
        rw [List.getElem?_range hi] at hx
        exact (Option.some.inj hx).symm
      subst hx'
      refine ⟨by show x < (n : Int).toNat; omega, fun v H'' y => ?_⟩
      obtain ⟨rfl, rfl⟩ := y
      refine ⟨.refl _, ?_⟩
      rw [Int.zero_add]
      exact .int _
    · rw [List.length_range] at hi
      show (n : Int).toNat ≤ i
      omega
theorem ei_range2 {lo n : Nat} (h : EvA T X [a, b] σ H [.d (.int (lo : Int)), .d (.int (n : Int))]) (h0 : lo < 2 ^ 62) (hn : n < 2 ^ 62) (hm : X.mg "range" = none) (hg : Gl X "range" := by rfl) (hs : starEach [a, b] X.env = [(false, eval a X.env), (false, eval b X.env)] := by rfl) (hs2 : starEach [b] X.env = [(false, eval b X.env)] := by rfl) :
    EvI T X tg (.Call (.Name "range" p) [a, b] [] pos) σ H S0 encN (List.range' lo (n - lo)) := fun H1 l R q => by
  refine w_pi (pi_range2 hg hm pa_w hs hs2) (h H1 l _ fun vs H2 l2 h2 => ?_)
  cases h2 with
  | cons h3 t =>
    cases t with
    | cons h4 t =>
      cases t
      obtain ⟨_, e, h3⟩ := h3
      cases e
      obtain rfl := h3.inv_int
      obtain ⟨_, e, h4⟩ := h4
      cases e
      obtain rfl := h4.inv_int
      refine ⟨lo, n, rfl, ⟨by omega, by omega, by omega, by omega⟩, q _ H2 l2 ⟨fun H' i x kp hx => ?_, fun H' i kp hi => ?_⟩⟩
      · have hi : i < n - lo := by
          have := (List.getElem?_eq_some_iff.mp hx).1
          rwa [List.length_range'] at this
        have hx' : x = lo + i := by
          rw [List.getElem?_range' hi, Nat.one_mul] at hx
          exact (Option.some.inj hx).symm
        subst hx'
        refine ⟨by show i < ((n : Int) - (lo : Int)).toNat; omega, fun v H'' y => ?_⟩
        obtain ⟨rfl, rfl⟩ := y
        exact ⟨.refl _, by have : ((lo : Int) + (i : Int)) = ((lo + i : Nat) : Int) := by omega
                           rw [this]; exact .int _⟩
      · rw [List.length_range'] at hi
        show ((n : Int) - (lo : Int)).toNat ≤ i
        omega

/-- THE FOR LOOP -/
theorem s_for (c : Fx X) {body : List Stmt} {S : Addr → Prop} (h : EvI T X tg e σ H S enc L) (J : Hp → Nat → St → Hp → Prop) (h0 : ∀ H1, Le T H H1 → J H1 0 σ H1)
    (hk : ∀ H1 i σ' H', Le T H H1 → J H1 i σ' H' → Kp S H1 H') (hm : ∀ H1 i σ' H' H2, J H1 i σ' H' → Le T H' H2 → J H1 i σ' H2)
    (hs : ∀ H1 i x v σ' H', Le T H H1 → L[i]? = some x → J H1 i σ' H' → Dt H' v (enc x) → wG X tg v σ' H' fun σ2 H3 => wSs X body { D with nx := J H1 (i + 1), ct := J H1 (i + 1), bk := wSs X rest D } σ2 H3)
    (hd : ∀ H1 σ' H', Le T H H1 → J H1 L.length σ' H' → wSs X rest D σ' H') (hfs : ∀ x, foldedSetIterable e X.env x = pure x := by intro _; rfl) : wSs X (.For tg e body [] pos :: rest) D σ H := by
  refine s_cons (w_ps (ps_for c.po c.calm pi_w pg_w pss_w hfs) (h H (.refl H) _ fun J' H1 l1 wk => ?_))
  refine ⟨fun i m σ' H' => m = L.length - i ∧ i ≤ L.length ∧ J H1 i σ' H', ⟨L.length, by omega, Nat.zero_le _, h0 H1 l1⟩, ?_⟩
  rintro i m σ' H' ⟨rfl, hi, hj⟩
  have kp := hk H1 i σ' H' l1 hj
  by_cases hlt : i < L.length
  · obtain ⟨hgo, hy⟩ := wk.go H' i L[i] kp (List.getElem?_eq_getElem hlt)
    refine .inr ⟨hgo, J H1 (i + 1), fun σ2 H2 j2 => ⟨L.length - (i + 1), by omega, rfl, hlt, j2⟩, fun v H'' y => ?_⟩
    obtain ⟨l2, dv⟩ := hy v H'' y
    exact hs H1 i L[i] v σ' H'' l1 (List.getElem?_eq_getElem hlt) (hm H1 i σ' H' H'' hj l2) dv
  · have e : i = L.length := by omega
    subst e
    exact .inl ⟨wk.stop H' _ kp (Nat.le_refl _), hd H1 σ' H' l1 hj⟩
/-- .. that changes nothing but slots -/
theorem s_forP (c : Fx X) {body : List Stmt} {S : Addr → Prop} (h : EvI T X tg e σ H S enc L) (g : Sg H σ δ) (P : Nat → Prop) (h0 : P 0)
    (hs : ∀ H1, Le T H H1 → ∀ i x v σ' H', L[i]? = some x → P i → Le T H1 H' → Sg H' σ' δ → Dt H' v (enc x) → wG X tg v σ' H' fun σ2 H3 => wSs X body { D with nx := fun σ3 H4 => Le T H1 H4 ∧ Sg H4 σ3 δ ∧ P (i + 1), ct := fun σ3 H4 => Le T H1 H4 ∧ Sg H4 σ3 δ ∧ P (i + 1), bk := wSs X rest D } σ2 H3)
    (hd : ∀ σ' H', P L.length → Le T H H' → Sg H' σ' δ → wSs X rest D σ' H') (hfs : ∀ x, foldedSetIterable e X.env x = pure x := by intro _; rfl) : wSs X (.For tg e body [] pos :: rest) D σ H :=
  s_for c h (fun H1 i σ' H' => Le T H1 H' ∧ Sg H' σ' δ ∧ P i) (fun H1 l => ⟨.refl _, g.mono l.tk, h0⟩) (fun H1 i σ' H' l j => .of j.1) (fun H1 i σ' H' H2 j l => ⟨j.1.trans l, j.2.1.mono l.tk, j.2.2⟩)
    (fun H1 i x v σ' H' l hx j dv => hs H1 l i x v σ' H' hx j.2.2 j.1 j.2.1 dv) (fun H1 σ' H' l j => hd σ' H' j.2.2 (l.trans j.1) j.2.1) hfs
end
end
end RF
set_option Elab.async false
set_option linter.all false
set_option maxRecDepth 100000
namespace RF
open PySem PySem.Spec L2 LamX
open PyProof.Rows hiding St

/-! ### list comprehensions -/
def wTs (X : Cx) (ifs : List Expr) : TT := fun σ H Q => ∀ (pins : List (Addr × Obj)) (s : Shared), Inv X pins σ H s →
  wpAny (model X.prog X.w) X.A (forIn ifs true fun c r => if r = true then do let ok ← isTrue c X.env (eval c X.env); pure (ForInStep.yield ok) else pure (ForInStep.yield r)) (TP X pins σ Q) X.xe s
def EvTs (T : List (Addr × Str)) (X : Cx) (ifs : List Expr) (σ : St) (H : Hp) (b : Bool) : Prop := ∀ H1, Le T H H1 → ∀ Q : Bool → Hp → Prop, (∀ H2, Le T H1 H2 → Q b H2) → wTs X ifs σ H1 Q
section
variable {T : List (Addr × Str)} {X : Cx} {e a b c : Expr} {es ifs : List Expr} {σ : St} {H H' : Hp} {δ : List Sl} {s s' : Sl} {d d' : PyData} {pos p p2 : Pos} {rest : List Stmt} {D : Ends} {α : Type} {enc : α → PyData} {L : List α} {tg elt iter : Expr} {scope : Scope}
theorem et_nil : EvTs T X [] σ H true := fun H1 l Q q pins s I => (pts_nil (X := X)).run pins s σ H1 Q I (q H1 (.refl _))
theorem et_one {k : Bool} (h : EvT T X c σ H k) : EvTs T X [c] σ H k := fun H1 l Q q pins s I => (pts_one (X := X) (pt_w (X := X) (e := c))).run pins s σ H1 Q I (h H1 l Q q)
theorem wG.imp {v : V} {Q Q' : St → Hp → Prop} (h : wG X tg v σ H Q) (k : ∀ σ' H', Q σ' H' → Q' σ' H') : wG X tg v σ H Q' := fun pins s u I r => thn (h pins s u I r) fun _ _ ⟨σ', H', I', q⟩ => ⟨σ', H', I', k σ' H' q⟩
/-- for every block -/
def bG (X : Cx) (scope : Scope) (tg : Expr) : TG := fun v σ H Q => ∀ Xb, Blk X scope Xb → wG Xb tg v σ H Q
def bTs (X : Cx) (scope : Scope) (ifs : List Expr) : TT := fun σ H Q => ∀ Xb, Blk X scope Xb → wTs Xb ifs σ H Q
def bE (X : Cx) (scope : Scope) (e : Expr) : TE := fun σ H Q => ∀ Xb, Blk X scope Xb → wE Xb e σ H Q
theorem blk_mk (s : Shared) (H : Hp) (C : Addr) (cl : List (Str × Addr)) (fp : List Addr) : Blk X scope (X.blk s H scope (compEnvC scope cl C X.env) fp) := ⟨s, H, C, cl, fp, rfl⟩
/-- what a turn of it must show -/
def LcTurn (T : List (Addr × Str)) (X : Cx) (scope : Scope) (tg elt : Expr) (ifs : List Expr) (vs : List Nat) (σ : St) (f : α → Option PyData) (x : α) (v : V) (H' : Hp) : Prop :=
  ∀ Xb, Blk X scope Xb → wG Xb tg v (wipe σ vs) H' fun σ2 H3 => H3 = H' ∧ wipe σ2 vs = wipe σ vs ∧ ∀ Xb', Blk X scope Xb' → EvTs T Xb' ifs σ2 H' (f x).isSome ∧ ∀ d, f x = some d → EvD T Xb' elt σ2 H' d
theorem lc_w {S : Addr → Prop} (h : EvI T X tg iter σ H S enc L) (vs : List Nat) (f : α → Option PyData) (hl : L.length ≤ 100000)
    (hs : ∀ H1, Le T H H1 → ∀ x v H', x ∈ L → Le T H1 H' → Dt H' v (enc x) → LcTurn T X scope tg elt ifs vs σ f x v H')
    {H0 : Hp} (l0 : Le T H H0) {Q : VK} (q : ∀ p xs H2, H0 p = none → Le T H0 H2 → H2 p = some (.lst xs) → DtL H2 xs (L.filterMap f) → Q (.ref p) H2) :
    tLc (wI X tg iter) (bG X scope tg) (bTs X scope ifs) (bE X scope elt) vs σ H0 Q := by
  refine h H0 l0 _ fun J H1 l1 wk D0 hD => ?_
  refine ⟨fun i m H' => m = L.length - i ∧ i ≤ L.length ∧ Le T H1 H' ∧ ∃ acc, H' D0 = some (.lst acc) ∧ DtL H' acc ((L.take i).filterMap f), ⟨L.length, by omega, Nat.zero_le _, .new hD, [], upd_same, .nil⟩, ?_⟩
  rintro i m H' ⟨rfl, hi, hle, acc, ha, hd⟩
  by_cases hlt : i < L.length
  · have hx : L[i]? = some L[i] := List.getElem?_eq_getElem hlt
    obtain ⟨hgo, hy⟩ := wk.go H' i L[i] (.of hle) hx
    refine .inr ⟨hgo, fun H2 => Le T H1 H2 ∧ ∃ acc, H2 D0 = some (.lst acc) ∧ DtL H2 acc ((L.take (i + 1)).filterMap f), fun H2 ⟨a1, a2⟩ => ⟨L.length - (i + 1), by omega, rfl, hlt, a1, a2⟩, fun v H'' y => ?_⟩
    obtain ⟨l2, dv⟩ := hy v H'' y
    intro Xb hb
    refine (hs H1 (l0.trans l1) L[i] v H'' (List.getElem_mem hlt) (hle.trans l2) dv Xb hb).imp fun σ2 H3 ⟨e3, w3, k3⟩ => ⟨w3, ?_⟩
    subst e3
    have ha2 : H3 D0 = some (.lst acc) := l2.lst ha
    have hd2 := hd.mono l2.tk
    have tk1 : L.take (i + 1) = L.take i ++ [L[i]] := by rw [List.take_add_one, hx]; rfl
    have hsz : acc.length ≤ i := by
      rw [hd.len]
      refine Nat.le_trans (List.length_filterMap_le _ _) ?_
      rw [List.length_take]
      exact Nat.min_le_left _ _
    intro Xb' hb'
    refine (k3 Xb' hb').1 H3 (.refl _) _ fun H4 l4 => ?_
    cases hf : f L[i] with
    | none =>
      show Le T H1 H4 ∧ _
      refine ⟨(hle.trans l2).trans l4, acc, l4.lst ha2, ?_⟩
      rw [tk1, List.filterMap_append]
      have : List.filterMap f [L[i]] = [] := by simp [hf]
      rw [this, List.append_nil]
      exact hd2.mono l4.tk
    | some dd =>
      show bE X scope elt σ2 H4 _
      intro Xc hc
      refine (k3 Xc hc).2 dd hf H4 l4 _ fun w H5 l5 h5 => ?_
      obtain ⟨_, e, h5⟩ := h5
      cases e
      have ha5 := l5.lst (l4.lst ha2)
      refine ⟨acc, ha5, Nat.lt_of_le_of_lt hsz (Nat.lt_of_lt_of_le hlt (Nat.le_trans hl (by decide))), (((hle.trans l2).trans l4).trans l5).mutL hD ha5, acc ++ [w], upd_same, ?_⟩
      rw [tk1, List.filterMap_append]
      have : List.filterMap f [L[i]] = [dd] := by simp [hf]
      rw [this]
      exact (((hd2.mono l4.tk).mono l5.tk).append (.cons h5 .nil)).mono (tk_lst ha5)
  · have e : i = L.length := by omega
    subst e
    refine .inl ⟨wk.stop H' _ (.of hle) (Nat.le_refl _), ?_⟩
    rw [List.take_length] at hd
    exact q D0 acc H' (l1.fr D0 hD) (l1.trans hle) ha hd
theorem ev_lcG (c : Fx X) {S : Addr → Prop} (h : EvI T X tg iter σ H S enc L) (own : List (Str × Nat)) (ok : BlkOk X.N X.env.scope scope own) (f : α → Option PyData) (hl : L.length ≤ 100000)
    (hs : ∀ H1, Le T H H1 → ∀ x v H', x ∈ L → Le T H1 H' → Dt H' v (enc x) → LcTurn T X scope tg elt ifs (own.map (·.2)) σ f x v H') (hfs : ∀ x, foldedSetIterable iter X.env x = pure x := by intro _; rfl) :
    EvL T X (.ListComp elt [⟨tg, iter, ifs, 0⟩] scope pos) σ H (L.filterMap f) := fun H0 l0 Q q => by
  refine w_pe (pe_lc (g := bG X scope tg) (tt := bTs X scope ifs) (te := bE X scope elt) c.calm c.nd pi_w ok ?_ ?_ ?_ hfs) (lc_w h _ f hl hs l0 q)
  · exact fun s H1 C cl fp => ⟨fun pins s1 σ1 H2 v u Q I r h => h _ (blk_mk s H1 C cl fp) pins s1 u I r⟩
  · exact fun s H1 C cl fp => ⟨fun pins s1 σ1 H2 Q I h => h _ (blk_mk s H1 C cl fp) pins s1 I⟩
  · exact fun s H1 C cl fp => ⟨fun pins s1 σ1 H2 Q I h => h _ (blk_mk s H1 C cl fp) pins s1 I⟩
/-- y = [..] -/
theorem s_setLcG (c : Fx X) (i : Nat) (g : Sg H σ δ) {y : Str} {py : Pos} {S : Addr → Prop} (h : EvI T X tg iter σ H S enc L) (own : List (Str × Nat)) (ok : BlkOk X.N X.env.scope scope own) (f : α → Option PyData) (hl : L.length ≤ 100000)
    (hs : ∀ H1, Le T H H1 → ∀ x v H', x ∈ L → Le T H1 H' → Dt H' v (enc x) → LcTurn T X scope tg elt ifs (own.map (·.2)) σ f x v H')
    (k : ∀ p xs σ' H', H p = none → Le T H H' → H' p = some (.lst xs) → DtL H' xs (L.filterMap f) → Sg H' σ' (δ.set i (.v (.ref p))) → wSs X rest D σ' H')
    {spos : Pos} (hsw : swapsWith (.ListComp elt [⟨tg, iter, ifs, 0⟩] scope pos) (some (.Name y py)) spos.line X.env = pure true) (hy : X.N[i]? = some y := by rfl) (hyl : X.env.scope.names.lookup y = some .local := by rfl)
    (hfs : ∀ x, foldedSetIterable iter X.env x = pure x := by intro _; rfl) :
    wSs X (.Assign [.Name y py] (.ListComp elt [⟨tg, iter, ifs, 0⟩] scope pos) spos :: rest) D σ H := by
  refine s_cons (w_ps (ps_setLc (g := bG X scope tg) (tt := bTs X scope ifs) (te := bE X scope elt) c.calm c.nd hy hyl hsw pi_w ok ?_ ?_ ?_ hfs) (lc_w h _ f hl hs (.refl H) fun p xs H2 hp l h2 hd => k p xs _ H2 hp l h2 hd ((g.mono l.tk).set (s := .v (.ref p)) rfl i)))
  · exact fun s H1 C cl fp => ⟨fun pins s1 σ1 H2 v u Q I r h => h _ (blk_mk s H1 C cl fp) pins s1 u I r⟩
  · exact fun s H1 C cl fp => ⟨fun pins s1 σ1 H2 Q I h => h _ (blk_mk s H1 C cl fp) pins s1 I⟩
  · exact fun s H1 C cl fp => ⟨fun pins s1 σ1 H2 Q I h => h _ (blk_mk s H1 C cl fp) pins s1 I⟩
/-- a turn whose target is one name -/
theorem turn1 (c : Fx X) (j : Nat) (g : Sg H σ δ) {x : Str} {f : α → Option PyData} {z : α} {v : V} (l : Le T H H') (dv : Dt H' v (enc z))
    (hs : ∀ σ2 Xb, Blk X scope Xb → Sg H' σ2 (δ.set j (.d (enc z))) → EvTs T Xb ifs σ2 H' (f z).isSome ∧ ∀ d, f z = some d → EvD T Xb elt σ2 H' d) (hi : X.N[j]? = some x := by rfl)
    (hx : (relabel scope X.env).names.lookup x = some .local ∨ (relabel scope X.env).names.lookup x = some .cell := by first | exact Or.inl rfl | exact Or.inr rfl) (hf : (scope.names.lookup x == some .cell) = true ∨ (relabel scope X.env).names.lookup x = some .local := by first | exact Or.inl rfl | exact Or.inr rfl) : LcTurn T X scope (.Name x pos) elt ifs [j] σ f z v H' := by
  intro Xb hb
  have hb0 := hb
  obtain ⟨s0, H0, C, cl, fp, rfl⟩ := hb
  refine w_pg (pg_name c.nd hi hx hf) ⟨rfl, ?_, fun Xb' hb' => hs _ Xb' hb' ?_⟩
  · show ((((wipe σ []).set j none).set j (some v)).set j none) = (wipe σ []).set j none
    rw [List.set_set, List.set_set]
  · have g2 := ((g.mono l.tk).wipe [j]).set (s := .d (enc z)) ⟨v, rfl, dv⟩ j
    have e : (wipeS δ [j]).set j (.d (enc z)) = δ.set j (.d (enc z)) := by
      show ((wipeS δ []).set j .x).set j _ = _
      rw [List.set_set]
      rfl
    rw [e] at g2
    exact g2
/-- [elt for x in iter if ..] -/
theorem ev_lc (c : Fx X) {S : Addr → Prop} (h : EvI T X (.Name x1 p) iter σ H S enc L) (j : Nat) (g : Sg H σ δ) (f : α → Option PyData)
    (hs : ∀ z H' σ2 Xb, z ∈ L → Le T H H' → Blk X scope Xb → Sg H' σ2 (δ.set j (.d (enc z))) → EvTs T Xb ifs σ2 H' (f z).isSome ∧ ∀ d, f z = some d → EvD T Xb elt σ2 H' d) (hl : L.length ≤ 100000)
    (ok : BlkOk X.N X.env.scope scope [(x1, j)]) (hi : X.N[j]? = some x1 := by rfl) (hx : (relabel scope X.env).names.lookup x1 = some .local ∨ (relabel scope X.env).names.lookup x1 = some .cell := by first | exact Or.inl rfl | exact Or.inr rfl) (hf : (scope.names.lookup x1 == some .cell) = true ∨ (relabel scope X.env).names.lookup x1 = some .local := by first | exact Or.inl rfl | exact Or.inr rfl)
    (hfs : ∀ x, foldedSetIterable iter X.env x = pure x := by intro _; rfl) :
    EvL T X (.ListComp elt [⟨.Name x1 p, iter, ifs, 0⟩] scope pos) σ H (L.filterMap f) :=
  ev_lcG c h [(x1, j)] ok f hl (fun H1 l z v H' hz l' dv => turn1 c j g (l.trans l') dv (fun σ2 Xb hb g2 => hs z H' σ2 Xb hz (l.trans l') hb g2) hi hx hf) hfs
theorem s_setLc (c : Fx X) (i : Nat) (g : Sg H σ δ) {y : Str} {py : Pos} {S : Addr → Prop} (h : EvI T X (.Name x1 p) iter σ H S enc L) (j : Nat) (f : α → Option PyData)
    (hs : ∀ z H' σ2 Xb, z ∈ L → Le T H H' → Blk X scope Xb → Sg H' σ2 (δ.set j (.d (enc z))) → EvTs T Xb ifs σ2 H' (f z).isSome ∧ ∀ d, f z = some d → EvD T Xb elt σ2 H' d) (hl : L.length ≤ 100000)
    (ok : BlkOk X.N X.env.scope scope [(x1, j)])
    (k : ∀ p xs σ' H', H p = none → Le T H H' → H' p = some (.lst xs) → DtL H' xs (L.filterMap f) → Sg H' σ' (δ.set i (.v (.ref p))) → wSs X rest D σ' H')
    {spos : Pos} (hsw : swapsWith (.ListComp elt [⟨.Name x1 p, iter, ifs, 0⟩] scope pos) (some (.Name y py)) spos.line X.env = pure true) (hi : X.N[j]? = some x1 := by rfl) (hx : (relabel scope X.env).names.lookup x1 = some .local ∨ (relabel scope X.env).names.lookup x1 = some .cell := by first | exact Or.inl rfl | exact Or.inr rfl) (hf : (scope.names.lookup x1 == some .cell) = true ∨ (relabel scope X.env).names.lookup x1 = some .local := by first | exact Or.inl rfl | exact Or.inr rfl)
    (hy : X.N[i]? = some y := by rfl) (hyl : X.env.scope.names.lookup y = some .local := by rfl) (hfs : ∀ x, foldedSetIterable iter X.env x = pure x := by intro _; rfl) :
    wSs X (.Assign [.Name y py] (.ListComp elt [⟨.Name x1 p, iter, ifs, 0⟩] scope pos) spos :: rest) D σ H :=
  s_setLcG c i g h [(x1, j)] ok f hl (fun H1 l z v H' hz l' dv => turn1 c j g (l.trans l') dv (fun σ2 Xb hb g2 => hs z H' σ2 Xb hz (l.trans l') hb g2) hi hx hf) k hsw hy hyl hfs

/-! ### built-ins -/
theorem vals_bl : ∀ {bs : List Bool} {xs : List V}, DtL H xs (bs.map .bool) → xs = bs.map V.bl
  | [], _, h => by cases h; rfl
  | b :: bs, _, h => by
    cases h with
    | cons h1 h2 =>
      obtain rfl := h1.inv_bl
      rw [vals_bl h2]
      rfl
theorem vals_int : ∀ {bs : List Int} {xs : List V}, DtL H xs (bs.map .int) → xs = bs.map V.int
  | [], _, h => by cases h; rfl
  | b :: bs, _, h => by
    cases h with
    | cons h1 h2 =>
      obtain rfl := h1.inv_int
      rw [vals_int h2]
      rfl
theorem eb_any {bs : List Bool} (c : Fx X) (h : EvL T X a σ H (bs.map .bool)) (hm : X.mg "any" = none) (hg : Gl X "any" := by rfl) (hst : starEach [a] X.env = (false, eval a X.env) :: starEach [] X.env := by rfl)
    (hpl : (backTo pos (starEach [] X.env)).any (·.1) = false := by rfl) (he : ∀ whole, isTrue (.Call (.Name "any" p) [a] [] pos) X.env whole = (do let v ← whole; standAt (Expr.pos (.Call (.Name "any" p) [a] [] pos)); holding [v] (truthy v)) := by intro _; rfl) : EB T X (.Call (.Name "any" p) [a] [] pos) σ H (bs.any id) := by
  refine eb_val (fun H1 l Q q => ?_) he
  refine w_pe (pe_callB (cr_any c.calm) hg hm PyProof.Rows.boot_any (pa_cons pe_w pa_nil hst) (by decide) (by decide) hst hpl) (h H1 l _ fun r xs H2 hn l2 hr hd => ?_)
  obtain rfl := vals_bl hd
  exact ⟨r, bs, rfl, SqL.of hr, q _ H2 l2 ⟨_, rfl, .bl _⟩⟩
theorem eb_all {bs : List Bool} (c : Fx X) (h : EvL T X a σ H (bs.map .bool)) (hm : X.mg "all" = none) (hg : Gl X "all" := by rfl) (hst : starEach [a] X.env = (false, eval a X.env) :: starEach [] X.env := by rfl)
    (hpl : (backTo pos (starEach [] X.env)).any (·.1) = false := by rfl) (he : ∀ whole, isTrue (.Call (.Name "all" p) [a] [] pos) X.env whole = (do let v ← whole; standAt (Expr.pos (.Call (.Name "all" p) [a] [] pos)); holding [v] (truthy v)) := by intro _; rfl) : EB T X (.Call (.Name "all" p) [a] [] pos) σ H (bs.all id) := by
  refine eb_val (fun H1 l Q q => ?_) he
  refine w_pe (pe_callB (cr_all c.calm) hg hm PyProof.Rows.boot_all (pa_cons pe_w pa_nil hst) (by decide) (by decide) hst hpl) (h H1 l _ fun r xs H2 hn l2 hr hd => ?_)
  obtain rfl := vals_bl hd
  exact ⟨r, bs, rfl, SqL.of hr, q _ H2 l2 ⟨_, rfl, .bl _⟩⟩
/-- len of a tuple, of a list that stands, of a new list -/
theorem ev_lenT {ds : List PyData} (h : EvD T X a σ H (.tuple ds)) (hm : X.mg "len" = none) (hg : Gl X "len" := by rfl) (hst : starEach [a] X.env = (false, eval a X.env) :: starEach [] X.env := by rfl) (hpl : (backTo pos (starEach [] X.env)).any (·.1) = false := by rfl) :
    EvD T X (.Call (.Name "len" p) [a] [] pos) σ H (.int (ds.length : Nat)) := fun H1 l Q q => by
  refine w_pe (pe_callB call_len hg hm PySem.boot_len (pa_cons pe_w pa_nil hst) (by decide) (by decide) hst hpl) (h H1 l _ fun v H2 l2 h2 => ?_)
  obtain ⟨_, e, h2⟩ := h2
  cases e
  obtain ⟨r, xs, rfl, hr, hd⟩ := h2.inv_tup
  refine ⟨.ref r, xs.length, rfl, .inr ⟨xs, SqT.of hr, rfl⟩, q _ H2 l2 ⟨_, rfl, ?_⟩⟩
  rw [hd.len]
  exact .int _
theorem ev_lenN {ds : List PyData} (h : EvL T X a σ H ds) (hm : X.mg "len" = none) (hg : Gl X "len" := by rfl) (hst : starEach [a] X.env = (false, eval a X.env) :: starEach [] X.env := by rfl) (hpl : (backTo pos (starEach [] X.env)).any (·.1) = false := by rfl) :
    EvD T X (.Call (.Name "len" p) [a] [] pos) σ H (.int (ds.length : Nat)) := fun H1 l Q q => by
  refine w_pe (pe_callB call_len hg hm PySem.boot_len (pa_cons pe_w pa_nil hst) (by decide) (by decide) hst hpl) (h H1 l _ fun r xs H2 hn l2 hr hd => ?_)
  refine ⟨.ref r, xs.length, rfl, .inl ⟨xs, SqL.of hr, rfl⟩, q _ H2 l2 ⟨_, rfl, ?_⟩⟩
  rw [hd.len]
  exact .int _
theorem ev_lenL {r : Addr} {xs : List V} (h : Ev T X a σ H (.v (.ref r))) (hr : H r = some (.lst xs)) (hm : X.mg "len" = none) (hg : Gl X "len" := by rfl) (hst : starEach [a] X.env = (false, eval a X.env) :: starEach [] X.env := by rfl) (hpl : (backTo pos (starEach [] X.env)).any (·.1) = false := by rfl) :
    EvD T X (.Call (.Name "len" p) [a] [] pos) σ H (.int (xs.length : Nat)) := fun H1 l Q q => by
  refine w_pe (pe_callB call_len hg hm PySem.boot_len (pa_cons pe_w pa_nil hst) (by decide) (by decide) hst hpl) (h H1 l _ fun v H2 l2 h2 => ?_)
  have h2' : some v = some (V.ref r) := h2
  cases h2'
  exact ⟨.ref r, xs.length, rfl, .inl ⟨xs, SqL.of ((l.trans l2).lst hr), rfl⟩, q _ H2 l2 ⟨_, rfl, .int _⟩⟩
/-- tuple(l) of a list that stands, of a new list -/
theorem ev_tupL {r : Addr} {xs : List V} {ds : List PyData} (h : Ev T X a σ H (.v (.ref r))) (hr : H r = some (.lst xs)) (hd : DtL H xs ds) (hm : X.mg "tuple" = none) (hg : Gl X "tuple" := by rfl) (hst : starEach [a] X.env = (false, eval a X.env) :: starEach [] X.env := by rfl) (hpl : (backTo pos (starEach [] X.env)).any (·.1) = false := by rfl) :
    EvD T X (.Call (.Name "tuple" p) [a] [] pos) σ H (.tuple ds) := fun H1 l Q q => by
  refine w_pe (pe_callTy call_tuple_of hg hm PyProof.Rows.boot_tuple (pa_cons pe_w pa_nil hst) (by decide) (by decide) hst hpl) (h H1 l _ fun v H2 l2 h2 => ?_)
  have h2' : some v = some (V.ref r) := h2
  cases h2'
  exact ⟨r, xs, rfl, .inl ⟨SqL.of ((l.trans l2).lst hr), fun n hn => q _ _ (l2.trans (.new hn)) ⟨_, rfl, .tup upd_same (hd.mono ((l.trans l2).trans (.new hn)).tk)⟩⟩⟩
theorem ev_tupN {ds : List PyData} (h : EvL T X a σ H ds) (hm : X.mg "tuple" = none) (hg : Gl X "tuple" := by rfl) (hst : starEach [a] X.env = (false, eval a X.env) :: starEach [] X.env := by rfl) (hpl : (backTo pos (starEach [] X.env)).any (·.1) = false := by rfl) :
    EvD T X (.Call (.Name "tuple" p) [a] [] pos) σ H (.tuple ds) := fun H1 l Q q => by
  refine w_pe (pe_callTy call_tuple_of hg hm PyProof.Rows.boot_tuple (pa_cons pe_w pa_nil hst) (by decide) (by decide) hst hpl) (h H1 l _ fun r xs H2 _ l2 hr hd => ?_)
  exact ⟨r, xs, rfl, .inl ⟨SqL.of hr, fun n hn => q _ _ (l2.trans (.new hn)) ⟨_, rfl, .tup upd_same (hd.mono (Le.new (T := T) hn).tk)⟩⟩⟩
/-- list(l) of a list that stands, of a tuple -/
theorem ev_listL {r : Addr} {xs : List V} {ds : List PyData} (h : Ev T X a σ H (.v (.ref r))) (hr : H r = some (.lst xs)) (hd : DtL H xs ds) (hm : X.mg "list" = none) (hg : Gl X "list" := by rfl) (hst : starEach [a] X.env = (false, eval a X.env) :: starEach [] X.env := by rfl) (hpl : (backTo pos (starEach [] X.env)).any (·.1) = false := by rfl) :
    EvL T X (.Call (.Name "list" p) [a] [] pos) σ H ds := fun H1 l Q q => by
  refine w_pe (pe_callTy call_list_of hg hm PyProof.Rows.boot_list (pa_cons pe_w pa_nil hst) (by decide) (by decide) hst hpl) (h H1 l _ fun v H2 l2 h2 => ?_)
  have h2' : some v = some (V.ref r) := h2
  cases h2'
  exact ⟨r, xs, rfl, .inl (SqL.of ((l.trans l2).lst hr)), fun n hn => q _ _ _ (l2.fr _ hn) (l2.trans (.new hn)) upd_same (hd.mono ((l.trans l2).trans (.new hn)).tk)⟩
theorem ev_listT {ds : List PyData} (h : EvD T X a σ H (.tuple ds)) (hm : X.mg "list" = none) (hg : Gl X "list" := by rfl) (hst : starEach [a] X.env = (false, eval a X.env) :: starEach [] X.env := by rfl) (hpl : (backTo pos (starEach [] X.env)).any (·.1) = false := by rfl) :
    EvL T X (.Call (.Name "list" p) [a] [] pos) σ H ds := fun H1 l Q q => by
  refine w_pe (pe_callTy call_list_of hg hm PyProof.Rows.boot_list (pa_cons pe_w pa_nil hst) (by decide) (by decide) hst hpl) (h H1 l _ fun v H2 l2 h2 => ?_)
  obtain ⟨_, e, h2⟩ := h2
  cases e
  obtain ⟨r, xs, rfl, hr, hd⟩ := h2.inv_tup
  exact ⟨r, xs, rfl, .inr (SqT.of hr), fun n hn => q _ _ _ (l2.fr _ hn) (l2.trans (.new hn)) upd_same (hd.mono (Le.new (T := T) hn).tk)⟩

/-! ### slices of tuples -/
inductive EvO (T : List (Addr × Str)) (X : Cx) (σ : St) (H : Hp) : Option Expr → Option Int → Prop
  | no : EvO T X σ H none none
  | so {e : Expr} {i : Int} : EvD T X e σ H (.int i) → EvO T X σ H (some e) (some i)
def wO (X : Cx) (e : Option Expr) : TO := match e with
  | none => tNoPart
  | some e => tPart (wE X e)
theorem po_w {e : Option Expr} : PO X e (wO X e) := by
  cases e with
  | none => exact po_none
  | some e => exact po_some pe_w
theorem EvO.get {e : Option Expr} {o : Option Int} (h : EvO T X σ H e o) : ∀ H1, Le T H H1 → ∀ Q : Option Int → Hp → Prop, (∀ H2, Le T H1 H2 → Q o H2) → wO X e σ H1 Q := fun H1 l Q q => by
  cases h with
  | no => exact q H1 (.refl _)
  | so h =>
    refine h H1 l _ fun v H2 l2 h2 => ?_
    obtain ⟨_, e, h2⟩ := h2
    cases e
    obtain rfl := h2.inv_int
    exact ⟨_, rfl, q H2 l2⟩
def cutD (xs : List PyData) (lo hi : Option Int) : List PyData := (xs.drop (HT.sIx xs.length 0 lo)).take (HT.sIx xs.length xs.length hi - HT.sIx xs.length 0 lo)
theorem DtL.cut {xs : List V} {ds : List PyData} (h : DtL H xs ds) (lo hi : Option Int) : DtL H (cutV xs lo hi) (cutD ds lo hi) := by
  unfold cutV cutD
  rw [h.len]
  exact (h.drop _).take _
/-- t[lo:hi] -/
theorem ev_slT {ds : List PyData} {lo hi : Option Expr} {i j : Option Int} (h : EvD T X a σ H (.tuple ds)) (h1 : EvO T X σ H lo i) (h2 : EvO T X σ H hi j) : EvD T X (.Subscript a (.Slice lo hi none p2) pos) σ H (.tuple (cutD ds i j)) := fun H1 l Q q => by
  refine w_pe (pe_slice sl_tupA pe_w po_w po_w) (h H1 l _ fun v H2 l2 hv => h1.get H2 (l.trans l2) _ fun H3 l3 => h2.get H3 ((l.trans l2).trans l3) _ fun H4 l4 => ?_)
  obtain ⟨_, e, hv⟩ := hv
  cases e
  obtain ⟨r, xs, rfl, hr, hd⟩ := (hv.mono (l3.trans l4).tk).inv_tup
  refine ⟨r, xs, rfl, SqT.of hr, fun hw => ?_, fun hw n hn => ?_⟩
  · refine q _ H4 ((l2.trans l3).trans l4) ⟨_, rfl, ?_⟩
    have e : cutD ds i j = ds := by
      unfold cutD
      rw [hd.len] at hw
      rw [hw.1, hw.2, List.drop_zero, Nat.sub_zero, List.take_length]
    rw [e]
    exact .tup hr hd
  · exact q _ _ (((l2.trans l3).trans l4).trans (.new hn)) ⟨_, rfl, .tup upd_same ((hd.cut i j).mono (Le.new (T := T) hn).tk)⟩

/-! ### calls of the text's defs -/
structure Cal (P : Program) (w : World) (K : PySem.W.Frag) (mg : Str → Option Value) (base : Heap) (k : Nat) (x : Str) (ps : List Str) (sp : Sp) : Prop where
  ex : ∃ (f : Addr) (fd : FuncData), FnOk P w K mg base CX0 k f fd ps sp ∧ mg x = some (.ref f) ∧ PySem.W.keepIn K (.ref f) = true ∧ Binds K fd ps []
theorem Cal.mono {P : Program} {w : World} {K : PySem.W.Frag} {mg : Str → Option Value} {base : Heap} {j k : Nat} {x : Str} {ps : List Str} {sp : Sp} (h : Cal P w K mg base j x ps sp) (l : j ≤ k) : Cal P w K mg base k x ps sp := by
  obtain ⟨f, fd, F, r⟩ := h.ex
  exact ⟨f, fd, F.mono l, r⟩
/-- what a promise hands on for such arguments: a value; a new list -/
def SpV (T : List (Addr × Str)) (sp : Sp) (H : Hp) (ss : List Sl) (s : Sl) : Prop := ∀ H1 vs, Le T H H1 → SsOk H1 vs ss → ∀ Q : VK, (∀ v H2, Le T H1 H2 → SlOk H2 (some v) s → Q v H2) → sp vs H1 Q E0
def SpL (T : List (Addr × Str)) (sp : Sp) (H : Hp) (ss : List Sl) (ds : List PyData) : Prop := ∀ H1 vs, Le T H H1 → SsOk H1 vs ss → ∀ Q : VK, (∀ p xs H2, H1 p = none → Le T H1 H2 → H2 p = some (.lst xs) → DtL H2 xs ds → Q (.ref p) H2) → sp vs H1 Q E0
theorem ev_call {k : Nat} {x : Str} {ps : List Str} {sp : Sp} {ss : List Sl} (C : Cal X.prog X.w X.K X.mg X.base k x ps sp) (hr : Room k X.A) (ha : EvA T X (e :: es) σ H ss) (hs : SpV T sp H ss s) (hg : Gl X x := by rfl)
    (hdb : (x == ("__debug__" : Str)) = false := by decide) (he : starEach (e :: es) X.env = (false, eval e X.env) :: starEach es X.env := by rfl) (hpl : (backTo pos (starEach es X.env)).any (·.1) = false := by rfl) : Ev T X (.Call (.Name x p) (e :: es) [] pos) σ H s := fun H1 l Q q => by
  obtain ⟨f, fd, F, hm, hk, hb⟩ := C.ex
  refine w_pe (pe_call F hr hg hm hk hb .nil pass0 pa_w hdb he hpl) (ha H1 l _ fun vs H2 l2 h2 => ?_)
  rw [List.append_nil]
  exact hs H2 vs (l.trans l2) h2 Q fun v H3 l3 h3 => q v H3 (l2.trans l3) h3
theorem ev_callN {k : Nat} {x : Str} {ps : List Str} {sp : Sp} {ss : List Sl} {ds : List PyData} (C : Cal X.prog X.w X.K X.mg X.base k x ps sp) (hr : Room k X.A) (ha : EvA T X (e :: es) σ H ss) (hs : SpL T sp H ss ds) (hg : Gl X x := by rfl)
    (hdb : (x == ("__debug__" : Str)) = false := by decide) (he : starEach (e :: es) X.env = (false, eval e X.env) :: starEach es X.env := by rfl) (hpl : (backTo pos (starEach es X.env)).any (·.1) = false := by rfl) : EvL T X (.Call (.Name x p) (e :: es) [] pos) σ H ds := fun H1 l Q q => by
  obtain ⟨f, fd, F, hm, hk, hb⟩ := C.ex
  refine w_pe (pe_call F hr hg hm hk hb .nil pass0 pa_w hdb he hpl) (ha H1 l _ fun vs H2 l2 h2 => ?_)
  rw [List.append_nil]
  exact hs H2 vs (l.trans l2) h2 Q fun p xs H3 hp l3 h3 hd => q p xs H3 (l2.fr _ hp) (l2.trans l3) h3 hd
/-- a promise over data alone -/
def spR (T : List (Addr × Str)) (n : Nat) (R : List PyData → PyData → Prop) : Sp := fun vs H Q _ => ∃ ds d, ds.length = n ∧ DtL H vs ds ∧ R ds d ∧ ∀ v H', Le T H H' → Dt H' v d → Q v H'
theorem spR_len {n : Nat} {R : List PyData → PyData → Prop} {vs : List V} {Q : VK} {E : XK} (h : spR T n R vs H Q E) : vs.length = n := by
  obtain ⟨ds, d, e, hd, _⟩ := h
  rw [hd.len, e]
theorem spR_v {n : Nat} {R : List PyData → PyData → Prop} {ds : List PyData} (hn : ds.length = n) (h : R ds d) : SpV T (spR T n R) H (ds.map Sl.d) (.d d) := fun H1 vs l hv Q q =>
  ⟨ds, d, hn, hv.vals_d, h, fun v H2 l2 h2 => q v H2 l2 ⟨_, rfl, h2⟩⟩
/-- a def over data, called with data -/
theorem ev_callR {k n : Nat} {x : Str} {ps : List Str} {R : List PyData → PyData → Prop} {ds : List PyData} (C : Cal X.prog X.w X.K X.mg X.base k x ps (spR T n R)) (hr : Room k X.A) (ha : EvA T X (e :: es) σ H (ds.map Sl.d)) (hR : R ds d) (hn : ds.length = n := by rfl) (hg : Gl X x := by rfl)
    (hdb : (x == ("__debug__" : Str)) = false := by decide) (he : starEach (e :: es) X.env = (false, eval e X.env) :: starEach es X.env := by rfl) (hpl : (backTo pos (starEach es X.env)).any (·.1) = false := by rfl) : EvD T X (.Call (.Name x p) (e :: es) [] pos) σ H d :=
  ev_call C hr ha (spR_v hn hR) hg hdb he hpl
end
theorem s_retD {T : List (Addr × Str)} {X : Cx} {e : Expr} {σ : St} {H : Hp} {d : PyData} {pos : Pos} {rest : List Stmt} {D : Ends} (h : EvD T X e σ H d) (k : ∀ v H', Le T H H' → Dt H' v d → D.rt v H') : wSs X (.Return (some e) pos :: rest) D σ H :=
  s_ret h fun v H' l hv => by
    obtain ⟨_, e, hv⟩ := hv
    cases e
    exact k v H' l hv
theorem s_retB {T : List (Addr × Str)} {X : Cx} {e : Expr} {σ : St} {H : Hp} {b : Bool} {pos : Pos} {rest : List Stmt} {D : Ends} (h : EB T X e σ H b) (k : ∀ v H', Le T H H' → Dt H' v (.bool b) → D.rt v H') : wSs X (.Return (some e) pos :: rest) D σ H := s_retD h.v k
theorem s_ifB {T : List (Addr × Str)} {X : Cx} {c : Expr} {σ : St} {H : Hp} {pos : Pos} {rest : List Stmt} {D : Ends} {k : Bool} {A B : List Stmt} (h : EB T X c σ H k) (h1 : k = true → ∀ H', Le T H H' → wSs X A { D with nx := wSs X rest D } σ H') (h2 : k = false → ∀ H', Le T H H' → wSs X B { D with nx := wSs X rest D } σ H') : wSs X (.If c A B pos :: rest) D σ H := s_if h.t h1 h2
theorem s_if0 {T : List (Addr × Str)} {X : Cx} {c : Expr} {σ : St} {H : Hp} {pos : Pos} {rest : List Stmt} {D : Ends} {k : Bool} {A : List Stmt} (h : EB T X c σ H k) (h1 : k = true → ∀ H', Le T H H' → wSs X A { D with nx := wSs X rest D } σ H') (h2 : k = false → ∀ H', Le T H H' → wSs X rest D σ H') : wSs X (.If c A [] pos :: rest) D σ H := s_if h.t h1 fun e H' l => s_nil (h2 e H' l)
/-- x, y = a, b with plain locals -/
theorem s_par {T : List (Addr × Str)} {X : Cx} {σ : St} {H : Hp} {δ : List Sl} {s s' : Sl} {rest : List Stmt} {D : Ends} (c : Fx X) (i j : Nat) (g : Sg H σ δ) {x y : Str} {a b : Expr} {px py pt pos : Pos} {kt k2 : Nat} {pt2 : Pos} (ha : Ev T X a σ H s) (hb : Ev T X b σ H s')
    (k : ∀ v w σ' H', Le T H H' → SlOk H' (some v) s → SlOk H' (some w) s' → Sg H' σ' ((δ.set i s).set j s') → wSs X rest D σ' H') (hij : i ≠ j := by decide) (hi : X.N[i]? = some x := by rfl) (hj : X.N[j]? = some y := by rfl) (hx : X.env.scope.names.lookup x = some .local := by rfl) (hy : X.env.scope.names.lookup y = some .local := by rfl)
    (hw : swappedStores [.Tuple [.Name x px, .Name y py] kt pt] (.Tuple [a, b] k2 pt2) X.env = pure (some [x, y]) := by rfl) (hs : swapsWithSole [.Tuple [.Name x px, .Name y py] kt pt] (.Tuple [a, b] k2 pt2) pos.line X.env = pure false := by rfl)
    (h1 : starEach [a, b] X.env = (false, eval a X.env) :: starEach [b] X.env := by rfl) (h2 : starEach [b] X.env = (false, eval b X.env) :: starEach [] X.env := by rfl) :
    wSs X (.Assign [.Tuple [.Name x px, .Name y py] kt pt] (.Tuple [a, b] k2 pt2) pos :: rest) D σ H := by
  refine s_cons (w_ps (ps_par c.calm c.nd hi hj hij hx hy pa_w hw hs) ?_)
  refine ea_cons ha (ea_cons hb ea_nil h2) h1 H (.refl H) _ fun vs H2 l hv => ?_
  cases hv with
  | cons q1 t =>
    cases t with
    | cons q2 t =>
      cases t
      exact ⟨_, _, rfl, k _ _ _ H2 l q1 q2 (((g.mono l.tk).set q1 i).set q2 j)⟩
/-- a def of the text, by its body -/
theorem fun_okW {P : Program} {w : World} {K : PySem.W.Frag} {mg : Str → Option Value} {base : Heap} {x qual : Str} {st : Stmt} {f : Addr} {fd : FuncData} {N ps : List Str} {k : Nat} {sp : Sp} (F : Fun K x qual st f fd) (S : FnScope N ps (defScope st)) (len : ∀ vs H Q E, sp vs H Q E → vs.length = ps.length)
    (hbody : ∀ (X : Cx) (cdv : Value) (A : Around) (outer : List Env) (s : Shared) (H : Hp) (vs : List V) (Q : VK) (E : XK), X = (cxOf CX0 P w K mg base N qual (defScope st) f cdv A outer s H E).nox → Fx X → Room k X.A → sp vs H Q E → wSs X (defBody st) { nx := fun _ H' => Q .non H', rt := Q } (start N vs) H) :
    FnOk P w K mg base CX0 (k + 1) f fd ps sp :=
  F.ok S len fun cdv A outer s H vs Q E hr h => ⟨_, pss_w, hbody _ cdv A outer s H vs Q E rfl ⟨S.nd, rfl, PassesOwn.never⟩ hr h⟩
end RF
set_option Elab.async false
set_option linter.all false
set_option maxRecDepth 100000
/-! enumerate of a tuple -/
namespace RF
open PySem PySem.Spec L2 LamX
open PyProof.Rows hiding St
open AutoSeq1 (wpAny_loadPart')

theorem meets_enumT (q : Addr) (its : Array Value) (n : Nat) (dd : Option Addr) (sl : Array (Option Value)) :
    Meets (Builtin.«enumerate.__new__» ⟨[.type "enumerate", .ref q], []⟩) (fun _ R s => s.heap.get? q = some { cls := .type "tuple", dict := dd, data := .seq its n, slots := sl } ∧
      R (.ok (.ret (.ref (s.heap.push { cls := .type "tuple_iterator", data := .fields #[.ref q, .int 0 0] }).objs.size)))
        { s with heap := (s.heap.push { cls := .type "tuple_iterator", data := .fields #[.ref q, .int 0 0] }).push { cls := .type "enumerate", data := .fields #[.none, .bool false, .ref s.heap.objs.size, rawInt 0, .none, .none] } }) :=
  .of_wp fun prog w A R s h => by
    obtain ⟨hp, g, d, tk, os⟩ := s; obtain ⟨hq, h⟩ := h
    have hsub := sub_enumerate
    have hT : Heap.IsTuple (Shared.heap ⟨hp, g, d, tk, os⟩) q its := ⟨_, hq, rfl, n, rfl⟩
    wp_walk using wpAny_loadPart' hq
    refine wpAny_stack_any fun st => wpAny_pure ?_
    split
    · rename_i c _ _ _ _ _
      cases (c == Value.type "enumerate")
      · wp_walk using wpAny_loadPart' hq, wpAny_pyIter_tuple hT
        exact ⟨_, rfl, h⟩
      · wp_walk using wpAny_loadPart' hq, wpAny_pyIter_tuple hT
        exact ⟨_, rfl, h⟩
    · wp_walk using wpAny_loadPart' hq, wpAny_pyIter_tuple hT
      exact ⟨_, rfl, h⟩

section
variable {prog : Program} {w : World} {A : Around} {E : Value → Shared → Prop} {s : Shared}
theorem call_enumT {q : Addr} {its : Array Value} {Q : Value → Shared → Prop} (hT : s.heap.IsTuple q its)
    (h : ∀ h', IsEnum h' (s.heap.objs.size + 1) s.heap.objs.size 0 .none → h'.IsTupleIter s.heap.objs.size q 0 →
      (∀ b o, s.heap.get? b = some o → h'.get? b = some o) → Q (.ref (s.heap.objs.size + 1)) { s with heap := h' }) :
    wpAny (model prog w) A (call (.type "enumerate") [.ref q]) Q E s := by
  obtain ⟨⟨cl, dd, dt, sl⟩, hq, hc, n, hd⟩ := hT
  have hc' : cl = .type "tuple" := hc
  have hd' : dt = .seq its n := hd
  subst hc' hd'
  refine callType_new F.called_enumerate (by decide) (F.typeCall_enumerate_1 _) (F.newCall_enumerate_1 _) (fun obj => F.args_object_init_2 obj _) F.entry_enumerate_new
    (meets_enumT q its n dd sl) ⟨hq, ?_⟩
  have hz : (s.heap.push { cls := .type "tuple_iterator", data := .fields #[.ref q, .int 0 0] }).objs.size = s.heap.objs.size + 1 := Heap.size_push ..
  show _ ∧ _
  rw [hz]
  have he : IsEnum ((s.heap.push { cls := .type "tuple_iterator", data := .fields #[.ref q, .int 0 0] }).push
      { cls := .type "enumerate", data := .fields #[.none, .bool false, .ref s.heap.objs.size, rawInt 0, .none, .none] }) (s.heap.objs.size + 1) s.heap.objs.size 0 .none := by
    have z := Heap.get?_push_size (s.heap.push { cls := .type "tuple_iterator", data := .fields #[.ref q, .int 0 0] })
      (o := { cls := .type "enumerate", data := .fields #[.none, .bool false, .ref s.heap.objs.size, rawInt 0, .none, .none] }) rfl
    rw [hz] at z
    exact z
  exact ⟨⟨_, he, rfl⟩, h _ he ⟨_, Heap.get?_push_of_some _ (Heap.get?_push_size _ rfl), rfl, rfl⟩ fun b o x => Heap.get?_push_of_some _ (Heap.get?_push_of_some _ x)⟩
theorem next_enumT_end {e it q : Addr} {i : Nat} {its : Array Value} {old : Value} {Q : Option Value → Shared → Prop} (hh : A.handled = none)
    (he : IsEnum s.heap e it i old) (hit : s.heap.IsTupleIter it q i) (hq : s.heap.IsTuple q its) (hx : its[i]? = none)
    (hQ : ∀ h', Heap.ExtBut it s.heap h' → Q none { s with heap := h' }) : wpAny (model prog w) A (pyNext (.ref e)) Q E s := by
  have tE : s.TypeIs (.ref e) "enumerate" := ⟨_, he, rfl⟩
  unfold pyNext
  refine wpAny_bind (wpAny_attempt (wpAny_callSpecial?_slot (name := Str.ofString "__next__") tE F.slot_enumerate_next
    (wpAny_call_entry F.slot_enumerate_next tE F.entry_enumerate_next ?_ (F.args_enumerate_next_1 _))))
  show wpAny _ _ (field (.ref e) 2 >>= _) _ _ _
  refine wpAny_bind (wpAny_field he rfl (x := .ref it) rfl ?_)
  refine wpAny_bind (wpAny_nextOf_tuple_end hh hit hq hx fun h' x k hx' => ?_)
  obtain ⟨o, ho, hc⟩ := hx'
  refine wpAny_bind (wpAny_isInstance (T := "StopIteration") (b := true) ⟨o, ho, hc⟩ isSubtype_stop ?_)
  exact wpAny_pure (hQ _ k)
end

/-- each item in a new pair with its number -/
def IteT (K : PySem.W.Frag) (a : Addr) : It :=
  ⟨fun i H => ∃ (xs : List V) (x : V), SqT K H a xs ∧ xs[i]? = some x, fun i H v H' => ∃ T x, v = .ref T ∧ H T = none ∧ H' = upd H T (.tup [.int (i : Nat), x]) ∧ ∀ xs, SqT K H a xs → xs[i]? = some x, fun i H => ∃ xs : List V, SqT K H a xs ∧ xs.length ≤ i⟩
theorem turn_enumT {P : Program} {w : World} {K : PySem.W.Frag} {elts : List Expr} {kk : Nat} {tpos : Pos} (a e it : Addr) :
    Turn P w K (.Tuple elts kk tpos) (IteT K a) [e, it] e (fun i h => (∃ old, IsEnum h e it ((i : Nat) : Int) old) ∧ h.IsTupleIter it a i ∧ e ≠ it) where
  mem := by simp
  obj := fun i h st b hb => by
    obtain ⟨⟨old, he⟩, ⟨o, ho, hc, hd⟩, _⟩ := st
    have z : b = e ∨ b = it := by simpa using hb
    rcases z with z | z
    · rw [z]; exact ⟨_, he, fun v q => nomatch q⟩
    · rw [z]; exact ⟨o, ho, fun v q => by rw [hd] at q; cases q⟩
  keep := fun i h h' st k => let ⟨⟨old, he⟩, hi, hne⟩ := st; ⟨⟨old, k e (by simp) _ he⟩, hi.at fun o q => k it (by simp) o q, hne⟩
  item := by
    intro X hP hw hK hc i pins s σ H E I hf st hg
    subst hP hw hK
    obtain ⟨⟨old, he⟩, hit, hne⟩ := st
    obtain ⟨xs, x, hq, hx⟩ := hg
    obtain ⟨its, rv, p, hz⟩ := I.tuple hq
    obtain ⟨u, hu, ru⟩ := rv.get hx
    have pT : s.heap.IsTuple a its.toArray := p
    have hel : e < s.heap.objs.size := Heap.lt_size he
    have hil : it < s.heap.objs.size := by obtain ⟨_, q, _⟩ := hit; exact Heap.lt_size q
    have nai : a ≠ it := fun z => by
      obtain ⟨o1, e1, _, n1, d1⟩ := pT
      obtain ⟨o2, e2, _, d2⟩ := hit
      rw [z, e2] at e1
      cases e1
      rw [d2] at d1
      cases d1
    have nea : e ≠ a := fun z => by
      obtain ⟨o1, e1, _, n1, d1⟩ := pT
      have h2 : s.heap.get? a = some _ := z ▸ he
      rw [h2] at e1
      cases e1
      cases d1
    have hlt : i < its.toArray.size := by
      have := (List.getElem?_eq_some_iff.mp hu).1
      simpa using this
    refine wpAny_pyNext_enum_itemD (Draws.tuple (A := X.A.in1) (I.ok.hd hc) it a nai its.toArray) he ⟨hit, pT⟩ hlt hne (by simp [hne, nea]) fun x' h' tk hx' ho hst hT hsz hk => ?_
    have ex : x' = u := by
      have h1 : its[i]? = some x' := by simpa using hx'
      rw [hu] at h1
      exact (Option.some.inj h1).symm
    subst ex
    refine ⟨_, rfl, wpAny_letOwnedTupleGo_enum (s := { s with heap := h', toks := tk + 1 }) ho fun h'' he' sb => ?_⟩
    have hT2 : h''.get? s.heap.objs.size = some { cls := .type "tuple", data := .seq #[.int i tk, x'] } := (sb.2 _ (Nat.ne_of_gt hel)).trans hT
    have new : ObjOk X.prog X.w (upd H s.heap.objs.size (.tup [.int (i : Nat), x])) h'' s.heap.objs.size (.tup [.int (i : Nat), x]) :=
      ⟨by show 2 ≤ sizeLine; decide, [.int i tk, x'], .cons ⟨_, rfl⟩ (.cons ru .nil), ⟨_, hT2, rfl, _, rfl⟩⟩
    have I1 : Inv X pins σ (upd H s.heap.objs.size (.tup [.int (i : Nat), x])) { s with heap := h'', toks := tk + 1 } :=
      I.turnedNew (ch := [e, it]) (fun b ob hb q => (sb.2 b (fun z => hb (by simp [z]))).trans (hk b ob (fun z => hb (by simp [z])) (fun z => hb (by simp [z])) q)) hf (Nat.le_refl _) new
    refine ⟨.ref s.heap.objs.size, _, I1, rfl, ⟨_, x, rfl, I.hok.fresh (Nat.le_refl _), rfl, fun ys hy => by rw [I.tuple_inj hy hq]; exact hx⟩, ⟨⟨x', ?_⟩, hst.1.at fun o q => (sb.2 it (Ne.symm hne)).trans q, hne⟩, fun b hb => ?_⟩
    · have e1 : ((i + 1 : Nat) : Int) = (i : Int) + 1 := by omega
      rw [e1]; exact he'
    · have hb' : b < s.heap.objs.size := by
        have z : b = e ∨ b = it := by simpa using hb
        rcases z with z | z
        · rw [z]; exact hel
        · rw [z]; exact hil
      rw [upd_ne (Nat.ne_of_lt hb')]
      exact (hf b hb).1
  done := by
    intro X hP hw hK hc i pins s σ H E I hf st hg
    subst hP hw hK
    obtain ⟨⟨old, he⟩, hit, hne⟩ := st
    obtain ⟨xs, hq, hx⟩ := hg
    obtain ⟨its, rv, p, hz⟩ := I.tuple hq
    have pT : s.heap.IsTuple a its.toArray := p
    obtain ⟨f0, f1, f2, f3, f4, f5⟩ := hf it (by simp)
    have hl := rv.length
    exact next_enumT_end (I.ok.hd hc) he hit pT (by simp; omega) fun h' eb => ⟨rfl, I.turned (t' := s.toks) (fun b o hb q => eb b o hb q) f0 f1 f3 f4 f5⟩
  self := fun A i s Q E st h => let ⟨⟨_, he⟩, _⟩ := st; wpAny_pyIter_enum he h
def iEnumT (K : PySem.W.Frag) (ta : TA) : TI := fun σ H R => ta σ H fun vs H1 => ∃ a xs, vs = [.ref a] ∧ SqT K H1 a xs ∧ R (IteT K a) H1
theorem pi_enumT {X : Cx} {e : Expr} {ta : TA} {p pos tpos : Pos} {elts : List Expr} {kk : Nat} (hg : Gl X "enumerate") (hm : X.mg "enumerate" = none) (ha : PA X [e] ta) (hs : starEach [e] X.env = [(false, eval e X.env)] := by rfl) :
    PI X (.Tuple elts kk tpos) (.Call (.Name "enumerate" p) [e] [] pos) (iEnumT X.K ta) := by
  refine ⟨fun pins s σ H R I h => ?_⟩
  refine Call_ (ld_blt I hg hm boot_enumerate (PyProof.Rows.callWith_type1 (thn (ha.run pos pins s σ H _ I h) fun us s1 ⟨vs, H1, I1, r1, q1⟩ => ?_) hs rfl))
  obtain ⟨a, xs, ex, hq, q⟩ := q1
  subst ex
  cases r1 with
  | cons r rr =>
    cases rr
    cases r
    obtain ⟨its, rv, p', hz⟩ := I1.tuple hq
    refine call_enumT (show s1.heap.IsTuple a its.toArray from p') fun h' he hit hk => wpAny_pyIter_enum he ?_
    have I2 : Inv X pins σ H1 { s1 with heap := h' } := I1.kept (t' := s1.toks) hk
    refine ⟨s1.heap.objs.size + 1, [s1.heap.objs.size + 1, s1.heap.objs.size], _, _, H1, rfl, I2, turn_enumT a (s1.heap.objs.size + 1) s1.heap.objs.size, ⟨⟨.none, he⟩, hit, Nat.succ_ne_self _⟩, fun b hb => ?_, q⟩
    have z : b = s1.heap.objs.size + 1 ∨ b = s1.heap.objs.size := by simpa using hb
    have hle : s1.heap.objs.size ≤ b := by
      rcases z with z | z
      · rw [z]; exact Nat.le_add_right _ _
      · rw [z]; exact Nat.le_refl _
    exact I1.fpOk hle (I1.hok.fresh hle)
section
variable {T : List (Addr × Str)} {X : Cx} {a : Expr} {σ : St} {H : Hp} {pos p tpos : Pos} {α : Type} {enc : α → PyData} {L : List α} {elts : List Expr} {kk : Nat}
abbrev encE (enc : α → PyData) : α × Nat → PyData := fun x => .tuple [.int (x.2 : Int), enc x.1]
/-- enumerate(t), t a tuple -/
theorem ei_enumT (h : EvD T X a σ H (.tuple (L.map enc))) (hm : X.mg "enumerate" = none) (hg : Gl X "enumerate" := by rfl) (hst : starEach [a] X.env = (false, eval a X.env) :: starEach [] X.env := by rfl) :
    EvI T X (.Tuple elts kk tpos) (.Call (.Name "enumerate" p) [a] [] pos) σ H S0 (encE enc) L.zipIdx := fun H1 l R q => by
  refine w_pi (pi_enumT hg hm (pa_cons pe_w pa_nil hst) hst) (h H1 l _ fun v H2 l2 h2 => ?_)
  obtain ⟨_, e, h2⟩ := h2
  cases e
  obtain ⟨r, xs, rfl, hr, hd⟩ := h2.inv_tup
  refine ⟨r, xs, rfl, SqT.of hr, q _ H2 l2 ⟨fun H' i x kp hx => ?_, fun H' i kp hi => ⟨xs, SqT.of (kp.1 _ _ hr), ?_⟩⟩⟩
  · rw [List.getElem?_zipIdx] at hx
    obtain ⟨y, hy, hx⟩ := Option.map_eq_some_iff.mp hx
    subst hx
    obtain ⟨v, hv, dv⟩ := (hd.mono kp.1).get (i := i) (d := enc y) (by rw [List.getElem?_map, hy]; rfl)
    refine ⟨⟨xs, v, SqT.of (kp.1 _ _ hr), hv⟩, fun w H'' y2 => ?_⟩
    obtain ⟨t, z, rfl, ht, rfl, y3⟩ := y2
    have h3 := y3 xs (SqT.of (kp.1 _ _ hr))
    rw [hv] at h3
    cases h3
    refine ⟨.new ht, .tup upd_same (.cons ?_ (.cons (dv.mono (Le.new (T := T) ht).tk) .nil))⟩
    have : (((0 + i : Nat)) : Int) = (i : Int) := by omega
    rw [this]
    exact .int _
  · rw [List.length_zipIdx] at hi
    rw [hd.len, List.length_map]
    exact hi
end
end RF
set_option Elab.async false
set_option linter.all false
set_option maxRecDepth 100000
/-! loops that fill a list -/
namespace RF
open PySem PySem.Spec L2 LamX
open PyProof.Rows hiding St

/-- all but tables and the objects of W stays -/
structure LeX (T : List (Addr × Str)) (W : Addr → Prop) (H H' : Hp) : Prop where
  ex : ∀ b o, ¬ W b → H b = some o → (∀ ps, o ≠ .tbl ps) → H' b = some o
  tb : Tabs T H → Tabs T H'
  fr : ∀ b, H' b = none → H b = none
section
variable {T : List (Addr × Str)} {W W' : Addr → Prop} {H H1 H2 H' : Hp} {p : Addr}
theorem LeX.refl (H : Hp) : LeX T W H H := ⟨fun _ _ _ h _ => h, fun h => h, fun _ h => h⟩
theorem LeX.trans (a : LeX T W H H1) (b : LeX T W H1 H2) : LeX T W H H2 := ⟨fun c o n h t => b.ex c o n (a.ex c o n h t) t, fun h => b.tb (a.tb h), fun c h => a.fr c (b.fr c h)⟩
theorem LeX.of (a : Le T H H') : LeX T W H H' := ⟨fun b o _ h t => a.ex b o h t, a.tb, a.fr⟩
theorem LeX.imp (a : LeX T W H H') (k : ∀ b, W b → W' b) : LeX T W' H H' := ⟨fun b o n h t => a.ex b o (fun z => n (k b z)) h t, a.tb, a.fr⟩
theorem LeX.tk (a : LeX T W H H') (n : ∀ b xs, W b → H b ≠ some (.tup xs)) : Tk H H' := fun b xs h => a.ex b _ (fun z => n b xs z h) h fun _ z => by cases z
/-- what is written was not there at H0 -/
theorem LeX.le (a : LeX T W H1 H') (l : Le T H H1) (n : ∀ b, W b → H b = none) : Le T H H' :=
  ⟨fun b o h t => a.ex b o (fun z => by rw [n b z] at h; cases h) (l.ex b o h t) t, fun h => a.tb (l.tb h), fun b h => l.fr b (a.fr b h)⟩
abbrev At (p : Addr) : Addr → Prop := fun b => b = p
theorem LeX.updL {xs ys : List V} (a : LeX T W H H') (hw : W p) (h : H' p = some (.lst xs)) : LeX T W H (upd H' p (.lst ys)) where
  ex := fun b o n hb t => by
    have hbp : b ≠ p := fun z => n (by rw [z]; exact hw)
    rw [upd_ne hbp]
    exact a.ex b o n hb t
  tb := fun t => tabs_lst h (a.tb t)
  fr := fun b hb => by
    by_cases e : b = p
    · rw [e, upd_same] at hb; cases hb
    · rw [upd_ne e] at hb
      exact a.fr b hb
theorem at_tup {xs : List V} (h : H p = some (.lst xs)) : ∀ b ys, At p b → H b ≠ some (.tup ys) := fun b ys e z => by
  have e' : b = p := e
  rw [e', h] at z
  cases z
theorem LeX.lst {q : Addr} {xs : List V} (a : LeX T (At p) H H') (n : q ≠ p) (h : H q = some (.lst xs)) : H' q = some (.lst xs) := a.ex q _ n h fun _ z => by cases z
end
section
variable {T : List (Addr × Str)} {X : Cx} {e : Expr} {σ : St} {H : Hp} {δ : List Sl} {pos : Pos} {rest : List Stmt} {D : Ends} {α : Type} {enc : α → PyData} {L : List α} {tg : Expr}
theorem flatMap_take_le {β : Type} (F : α → List β) : ∀ (L : List α) (i : Nat) (x : α), L[i]? = some x → ((L.take i).flatMap F).length + (F x).length ≤ (L.flatMap F).length
  | [], _, _, h => by simp at h
  | y :: L, 0, x, h => by
    have : y = x := by simpa using h
    subst this
    simp
  | y :: L, i + 1, x, h => by
    have ih := flatMap_take_le F L i x (by simpa using h)
    simp only [List.take_succ_cons, List.flatMap_cons, List.length_append]
    omega
/-- a loop that fills the list at p: turn x adds F x -/
theorem s_forA (c : Fx X) {body : List Stmt} {S : Addr → Prop} (h : EvI T X tg e σ H S enc L) (g : Sg H σ δ) {p : Addr} {xs0 : List V} {ds0 : List PyData} (hp : H p = some (.lst xs0)) (hd0 : DtL H xs0 ds0) (F : α → List PyData) (hS : ∀ q, S q → q ≠ p)
    (hs : ∀ x v σ' H' xs ds, x ∈ L → LeX T (At p) H H' → Sg H' σ' δ → H' p = some (.lst xs) → DtL H' xs ds → ds.length + (F x).length ≤ ds0.length + (L.flatMap F).length → Dt H' v (enc x) →
      wG X tg v σ' H' fun σ2 H3 => wSs X body { D with nx := fun σ3 H4 => LeX T (At p) H' H4 ∧ Sg H4 σ3 δ ∧ ∃ ys, H4 p = some (.lst ys) ∧ DtL H4 ys (ds ++ F x), ct := fun σ3 H4 => LeX T (At p) H' H4 ∧ Sg H4 σ3 δ ∧ ∃ ys, H4 p = some (.lst ys) ∧ DtL H4 ys (ds ++ F x), bk := wSs X rest D } σ2 H3)
    (hd : ∀ σ' H' xs, LeX T (At p) H H' → Sg H' σ' δ → H' p = some (.lst xs) → DtL H' xs (ds0 ++ L.flatMap F) → wSs X rest D σ' H') (hfs : ∀ x, foldedSetIterable e X.env x = pure x := by intro _; rfl) : wSs X (.For tg e body [] pos :: rest) D σ H := by
  refine s_for c h (fun H1 i σ' H' => LeX T (At p) H1 H' ∧ Sg H' σ' δ ∧ ∃ xs, H' p = some (.lst xs) ∧ DtL H' xs (ds0 ++ (L.take i).flatMap F)) (fun H1 l => ⟨.refl _, g.mono l.tk, xs0, l.lst hp, by rw [List.take_zero, List.flatMap_nil, List.append_nil]; exact hd0.mono l.tk⟩)
    (fun H1 i σ' H' l j => ⟨j.1.tk (at_tup (l.lst hp)), fun q xs hq hh => j.1.lst (hS q hq) hh⟩) (fun H1 i σ' H' H2 j l => ⟨j.1.trans (.of l), j.2.1.mono l.tk, ?_⟩) (fun H1 i x v σ' H' l hx j dv => ?_) (fun H1 σ' H' l j => ?_) hfs
  · obtain ⟨xs, h1, h2⟩ := j.2.2
    exact ⟨xs, l.lst h1, h2.mono l.tk⟩
  · obtain ⟨j1, j2, xs, h1, h2⟩ := j
    have hb := flatMap_take_le F L i x hx
    have tk1 : L.take (i + 1) = L.take i ++ [x] := by rw [List.take_add_one, hx]; rfl
    have e1 : ds0 ++ (L.take (i + 1)).flatMap F = (ds0 ++ (L.take i).flatMap F) ++ F x := by rw [tk1, List.flatMap_append, List.append_assoc]; simp
    have q := hs x v σ' H' xs _ (List.mem_of_getElem? hx) (.trans (.of l) j1) j2 h1 h2 (by rw [List.length_append]; omega) dv
    refine q.imp fun σ2 H3 q2 => ?_
    intro pins s I
    refine thn (q2 pins s I) fun f s' hf => ?_
    cases f with
    | next =>
      obtain ⟨σ4, H4, I4, k1, k2, k3⟩ := hf
      exact ⟨σ4, H4, I4, j1.trans k1, k2, by rw [e1]; exact k3⟩
    | cont =>
      obtain ⟨σ4, H4, I4, k1, k2, k3⟩ := hf
      exact ⟨σ4, H4, I4, j1.trans k1, k2, by rw [e1]; exact k3⟩
    | brk => exact hf
    | ret u => exact hf
  · obtain ⟨j1, j2, xs, h1, h2⟩ := j
    rw [List.take_length] at h2
    exact hd σ' H' xs (.trans (.of l) j1) j2 h1 h2
end
end RF
set_option Elab.async false
set_option linter.all false
set_option maxRecDepth 100000
set_option maxHeartbeats 4000000
namespace RF
open PySem PySem.Spec L2 LamX
open PyProof.Rows hiding St

/-! ### the data -/
inductive Ins where
  | st (x : Str) | ld (x : Str) | sw (x : Str) | fe
  deriving DecidableEq
abbrev kSt : Str := "store"
abbrev kLd : Str := "load"
abbrev kSw : Str := "swap"
abbrev kFe : Str := "fence"
theorem n_sl : kSt ≠ kLd := by decide +kernel
theorem n_sw : kSt ≠ kSw := by decide +kernel
theorem n_sf : kSt ≠ kFe := by decide +kernel
theorem n_lw : kLd ≠ kSw := by decide +kernel
theorem n_lf : kLd ≠ kFe := by decide +kernel
theorem n_wf : kSw ≠ kFe := by decide +kernel
def encI : Ins → PyData
  | .st x => .tuple [.str kSt, .str x]
  | .ld x => .tuple [.str kLd, .str x]
  | .sw x => .tuple [.str kSw, .str x]
  | .fe => .tuple [.str kFe]
abbrev Row := List Ins
abbrev Prog := List (List Ins)
abbrev encRow (r : List Ins) : PyData := .tuple (r.map encI)
abbrev encProg (p : List (List Ins)) : PyData := .tuple (p.map encRow)
abbrev encPl (p : Nat × Nat) : PyData := .tuple [.int (p.1 : Int), .int (p.2 : Int)]
namespace Ins
def kind : Ins → Str
  | .st _ => kSt
  | .ld _ => kLd
  | .sw _ => kSw
  | .fe => kFe
def acc : Ins → Bool
  | .fe => false
  | _ => true
def stores : Ins → Bool
  | .st _ => true
  | .sw _ => true
  | _ => false
def empt : Ins → Bool
  | .sw _ => true
  | .fe => true
  | _ => false
def var? : Ins → Option Str
  | .st x => some x
  | .ld x => some x
  | .sw x => some x
  | .fe => none
end Ins
theorem at0 (i : Ins) : ∃ ds, encI i = .tuple ds ∧ atI ds 0 = some (.str i.kind) := by
  cases i <;> exact ⟨_, rfl, rfl⟩
theorem at1 {i : Ins} {x : Str} (h : i.var? = some x) : ∃ ds, encI i = .tuple ds ∧ atI ds 1 = some (.str x) := by
  cases i <;> cases h <;> exact ⟨_, rfl, rfl⟩
theorem encI_shaped {i : Ins} (h : ∀ x, i.var? = some x → PyData.strOk x = true) : SeqAt.shaped (encI i) = true := by
  have k1 : PyData.strOk kSt = true := by decide +kernel
  have k2 : PyData.strOk kLd = true := by decide +kernel
  have k3 : PyData.strOk kSw = true := by decide +kernel
  have k4 : PyData.strOk kFe = true := by decide +kernel
  cases i <;> simp [encI, SeqAt.shaped, PyData.canLay0, PyData.canLayAll0, PyData.depth, PyData.depthAll, k1, k2, k3, k4]
  · exact h _ rfl
  · exact h _ rfl
  · exact h _ rfl
theorem shaped_int (x : Int) : SeqAt.shaped (.int x) = true := by simp [SeqAt.shaped, PyData.canLay0, PyData.depth]

/-- what the module's names hold -/
structure Nm (mg : Str → Option Value) : Prop where
  fence : ∃ t, mg "FENCE" = some (.str kFe t)
  load : ∃ t, mg "LOAD" = some (.str kLd t)
  store : ∃ t, mg "STORE" = some (.str kSt t)
  swap : ∃ t, mg "SWAP" = some (.str kSw t)
  line : ∃ t, mg "LINE" = some (.str "line" t)
  lanes : ∃ t, mg "LANES" = some (.str "lanes" t)
  parts : ∃ t, mg "REMEDY_PARTS" = some (.int 3 t)
  any : mg "any" = none
  all : mg "all" = none
  len : mg "len" = none
  range : mg "range" = none
  enumerate : mg "enumerate" = none
  tuple : mg "tuple" = none
  list : mg "list" = none
  set : mg "set" = none
  dict : mg "dict" = none
  sorted : mg "sorted" = none
  min : mg "min" = none
  max : mg "max" = none
  sum : mg "sum" = none
  abs : mg "abs" = none
  int : mg "int" = none
  bool : mg "bool" = none
  isinstance : mg "isinstance" = none

section
variable {T : List (Addr × Str)} {X : Cx} {e a b c : Expr} {σ : St} {H : Hp} {pos p p2 : Pos}
theorem eqv_str (x y : Str) : PyData.eqv (.str x) (.str y) = decide (x = y) := by
  rw [PyData.eqv]
  by_cases h : x = y
  · subst h; simp
  · simp [h]
theorem flat_strs' (ys : List Str) : (ys.map V.str).all flatV = true := by
  induction ys with
  | nil => rfl
  | cons y ys ih => rw [List.map_cons, List.all_cons, ih]; rfl
theorem inV_strs (x : Str) (ys : List Str) : inV (.str x) (ys.map V.str) = decide (x ∈ ys) := by
  induction ys with
  | nil => rfl
  | cons y ys ih =>
    show (eqV (.str y) (.str x) || inV (.str x) (ys.map V.str)) = _
    rw [ih]
    have e : eqV (.str y) (.str x) = decide (x = y) := by
      show (y == x) = _
      by_cases h : x = y
      · subst h; simp
      · have h' : ¬ y = x := fun z => h z.symm
        simp [h, h']
    rw [e]
    by_cases h : x = y <;> simp [h]
theorem vals_str : ∀ {bs : List Str} {xs : List V}, DtL H xs (bs.map .str) → xs = bs.map V.str
  | [], _, h => by cases h; rfl
  | b :: bs, _, h => by
    cases h with
    | cons h1 h2 =>
      obtain rfl := h1.inv_str
      rw [vals_str h2]
      rfl
/-- x in (a text, ..) -/
theorem eb_inS {x : Str} {ys : List Str} (ha : EvD T X a σ H (.str x)) (hb : EvD T X b σ H (.tuple (ys.map .str))) (hm : behindInMarks .In b = false := by with_unfolding_all rfl) : EB T X (.Compare a [.In] [b] pos) σ H (decide (x ∈ ys)) :=
  eb_cmp op_in_seq ha hb hm fun v w H3 Q _ h2 h3 q => by
    obtain ⟨_, e, h2⟩ := h2
    cases e
    obtain rfl := h2.inv_str
    obtain ⟨_, e, h3⟩ := h3
    cases e
    obtain ⟨r, xs, rfl, hr, hd⟩ := h3.inv_tup
    obtain rfl := vals_str hd
    refine ⟨r, _, rfl, .inr (SqT.of hr), rfl, flat_strs' ys, ?_⟩
    rw [if_neg Bool.false_ne_true, inV_strs]
    exact q
theorem eb_notInS {x : Str} {ys : List Str} (ha : EvD T X a σ H (.str x)) (hb : EvD T X b σ H (.tuple (ys.map .str))) (hm : behindInMarks .NotIn b = false := by with_unfolding_all rfl) : EB T X (.Compare a [.NotIn] [b] pos) σ H (!decide (x ∈ ys)) :=
  eb_cmp op_notIn_seq ha hb hm fun v w H3 Q _ h2 h3 q => by
    obtain ⟨_, e, h2⟩ := h2
    cases e
    obtain rfl := h2.inv_str
    obtain ⟨_, e, h3⟩ := h3
    cases e
    obtain ⟨r, xs, rfl, hr, hd⟩ := h3.inv_tup
    obtain rfl := vals_str hd
    refine ⟨r, _, rfl, .inr (SqT.of hr), rfl, flat_strs' ys, ?_⟩
    rw [if_pos rfl, inV_strs]
    exact q
/-- i[0] of an instruction, i[1] of an access -/
theorem ev_i0 {i : Ins} (ha : EvD T X a σ H (encI i)) (hb : EvD T X b σ H (.int 0)) (hs : PlainIx b := by exact fun _ _ => rfl) : EvD T X (.Subscript a b pos) σ H (.str i.kind) := by
  obtain ⟨ds, e, h⟩ := at0 i
  exact ev_ix (ha.to (by rw [e])) hb h hs
theorem ev_i1 {i : Ins} {x : Str} (h : i.var? = some x) (ha : EvD T X a σ H (encI i)) (hb : EvD T X b σ H (.int 1)) (hs : PlainIx b := by exact fun _ _ => rfl) : EvD T X (.Subscript a b pos) σ H (.str x) := by
  obtain ⟨ds, e, h⟩ := at1 h
  exact ev_ix (ha.to (by rw [e])) hb h hs
theorem eb_eqS {x y : Str} (ha : EvD T X a σ H (.str x)) (hb : EvD T X b σ H (.str y)) : EB T X (.Compare a [.Eq] [b] pos) σ H (decide (x = y)) :=
  eb_cmp op_eq ha hb (nomark _) fun v w H3 Q _ h2 h3 q => by
    obtain ⟨_, e, h2⟩ := h2
    cases e
    obtain rfl := h2.inv_str
    obtain ⟨_, e, h3⟩ := h3
    cases e
    obtain rfl := h3.inv_str
    refine ⟨rfl, ?_⟩
    have e : decide (V.str x = V.str y) = decide (x = y) := by by_cases h : x = y <;> simp [h]
    rw [e]
    exact q
theorem eb_neS {x y : Str} (ha : EvD T X a σ H (.str x)) (hb : EvD T X b σ H (.str y)) : EB T X (.Compare a [.NotEq] [b] pos) σ H (!decide (x = y)) :=
  eb_cmp op_ne ha hb (nomark _) fun v w H3 Q _ h2 h3 q => by
    obtain ⟨_, e, h2⟩ := h2
    cases e
    obtain rfl := h2.inv_str
    obtain ⟨_, e, h3⟩ := h3
    cases e
    obtain rfl := h3.inv_str
    refine ⟨rfl, ?_⟩
    have e : decide (V.str x = V.str y) = decide (x = y) := by by_cases h : x = y <;> simp [h]
    rw [e]
    exact q
theorem eb_eqI {x y : Int} (ha : EvD T X a σ H (.int x)) (hb : EvD T X b σ H (.int y)) : EB T X (.Compare a [.Eq] [b] pos) σ H (decide (x = y)) :=
  eb_cmp op_eq ha hb (nomark _) fun v w H3 Q _ h2 h3 q => by
    obtain ⟨_, e, h2⟩ := h2
    cases e
    obtain rfl := h2.inv_int
    obtain ⟨_, e, h3⟩ := h3
    cases e
    obtain rfl := h3.inv_int
    refine ⟨rfl, ?_⟩
    have e : decide (V.int x = V.int y) = decide (x = y) := by by_cases h : x = y <;> simp [h]
    rw [e]
    exact q
theorem eb_neI {x y : Int} (ha : EvD T X a σ H (.int x)) (hb : EvD T X b σ H (.int y)) : EB T X (.Compare a [.NotEq] [b] pos) σ H (!decide (x = y)) :=
  eb_cmp op_ne ha hb (nomark _) fun v w H3 Q _ h2 h3 q => by
    obtain ⟨_, e, h2⟩ := h2
    cases e
    obtain rfl := h2.inv_int
    obtain ⟨_, e, h3⟩ := h3
    cases e
    obtain rfl := h3.inv_int
    refine ⟨rfl, ?_⟩
    have e : decide (V.int x = V.int y) = decide (x = y) := by by_cases h : x = y <;> simp [h]
    rw [e]
    exact q
end
theorem args_of {H : Hp} {vs : List V} {ds : List PyData} (h : DtL H vs ds) : SsOk H vs (ds.map Sl.d) := by
  induction vs generalizing ds with
  | nil => cases h; exact .nil
  | cons v vs ih =>
    cases h with
    | cons h1 h2 => exact .cons ⟨_, rfl, h1⟩ (ih h2)
theorem startN {H : Hp} {N : List Str} {vs : List V} {ds : List PyData} (h : DtL H vs ds) : Sg H (L2.start N vs) (ds.map Sl.d ++ List.replicate (N.length - ds.length) .x) := by
  have := Sg.start (N.length - vs.length) (args_of h)
  unfold L2.start
  rw [h.len] at this ⊢
  exact this

theorem strK {H : Hp} {vs : List V} {d1 : PyData} {ds : List PyData} (h : DtL H vs (d1 :: ds)) : ∃ v r, vs = v :: r ∧ Dt H v d1 ∧ DtL H r ds := by
  cases h with
  | cons h1 h2 => exact ⟨_, _, rfl, h1, h2⟩
section
variable {P : Program} {w : World} {K : PySem.W.Frag} {mg : Str → Option Value} {base : Heap} {T : List (Addr × Str)} {f : Addr} {fd : FuncData} {k : Nat}
/-! is_access_to, does_store, empties -/
def rI (g : Ins → Bool) : List PyData → PyData → Prop := fun ds d => ∃ i : Ins, ds = [encI i] ∧ d = .bool (g i)
theorem ok_is_access_to (M : Nm mg) (F : Fun K "is_access_to" "is_access_to" (topS 8) f fd) : FnOk P w K mg base CX0 (k + 1) f fd ["instruction"] (spR T 1 (rI Ins.acc)) := by
  have S : FnScope ["instruction"] ["instruction"] (defScope (topS 8)) := ⟨rfl, rfl, rfl, by decide +kernel, rfl, by decide +kernel, by decide +kernel⟩
  refine fun_okW F S (fun _ _ _ _ h => spR_len h) fun X cdv A outer s H vs Q E e c hr h => ?_
  subst e
  obtain ⟨ds, d, _, hd, ⟨i, rfl, rfl⟩, q⟩ := h
  have g : Sg H (L2.start ["instruction"] vs) [.d (encI i)] := startN hd
  obtain ⟨t, mF⟩ := M.fence
  refine s_retB (T := T) ((eb_neS (ev_i0 (ev_v 0 g rfl) ev_int) (ev_gs mF)).to ?_) q
  cases i <;> simp [Ins.kind, Ins.acc, Ins.stores, Ins.empt, n_sl, n_sw, n_sf, n_lw, n_lf, n_wf, n_sl.symm, n_sw.symm, n_sf.symm, n_lw.symm, n_lf.symm, n_wf.symm]
theorem ok_does_store (M : Nm mg) (F : Fun K "does_store" "does_store" (topS 9) f fd) : FnOk P w K mg base CX0 (k + 1) f fd ["instruction"] (spR T 1 (rI Ins.stores)) := by
  have S : FnScope ["instruction"] ["instruction"] (defScope (topS 9)) := ⟨rfl, rfl, rfl, by decide +kernel, rfl, by decide +kernel, by decide +kernel⟩
  refine fun_okW F S (fun _ _ _ _ h => spR_len h) fun X cdv A outer s H vs Q E e c hr h => ?_
  subst e
  obtain ⟨ds, d, _, hd, ⟨i, rfl, rfl⟩, q⟩ := h
  have g : Sg H (L2.start ["instruction"] vs) [.d (encI i)] := startN hd
  obtain ⟨t, m1⟩ := M.store
  obtain ⟨t, m2⟩ := M.swap
  refine s_retB (T := T) ((eb_inS (ys := [kSt, kSw]) (ev_i0 (ev_v 0 g rfl) ev_int) (ev_tup (ds := [.str kSt, .str kSw]) (ea_cons (ev_gs m1) (ea_1 (ev_gs m2))))).to ?_) q
  cases i <;> simp [Ins.kind, Ins.acc, Ins.stores, Ins.empt, n_sl, n_sw, n_sf, n_lw, n_lf, n_wf, n_sl.symm, n_sw.symm, n_sf.symm, n_lw.symm, n_lf.symm, n_wf.symm]
theorem ok_empties (M : Nm mg) (F : Fun K "empties" "empties" (topS 10) f fd) : FnOk P w K mg base CX0 (k + 1) f fd ["instruction"] (spR T 1 (rI Ins.empt)) := by
  have S : FnScope ["instruction"] ["instruction"] (defScope (topS 10)) := ⟨rfl, rfl, rfl, by decide +kernel, rfl, by decide +kernel, by decide +kernel⟩
  refine fun_okW F S (fun _ _ _ _ h => spR_len h) fun X cdv A outer s H vs Q E e c hr h => ?_
  subst e
  obtain ⟨ds, d, _, hd, ⟨i, rfl, rfl⟩, q⟩ := h
  have g : Sg H (L2.start ["instruction"] vs) [.d (encI i)] := startN hd
  obtain ⟨t, m1⟩ := M.fence
  obtain ⟨t, m2⟩ := M.swap
  refine s_retB (T := T) ((eb_inS (ys := [kFe, kSw]) (ev_i0 (ev_v 0 g rfl) ev_int) (ev_tup (ds := [.str kFe, .str kSw]) (ea_cons (ev_gs m1) (ea_1 (ev_gs m2))))).to ?_) q
  cases i <;> simp [Ins.kind, Ins.acc, Ins.stores, Ins.empt, n_sl, n_sw, n_sf, n_lw, n_lf, n_wf, n_sl.symm, n_sw.symm, n_sf.symm, n_lw.symm, n_lf.symm, n_wf.symm]

/-! instruction_at -/
def insAt (p : Prog) (t a : Nat) : Option Ins := (p[t]?).bind fun r => r[a]?
def rAt : List PyData → PyData → Prop := fun ds d => ∃ (p : Prog) (t a : Nat) (i : Ins), insAt p t a = some i ∧ ds = [encProg p, encPl (t, a)] ∧ d = encI i
theorem insAt_row {p : Prog} {t a : Nat} {i : Ins} (h : insAt p t a = some i) : ∃ r, p[t]? = some r ∧ r[a]? = some i := by
  unfold insAt at h
  cases e : p[t]? with
  | none => rw [e] at h; cases h
  | some r => rw [e] at h; exact ⟨r, rfl, h⟩
theorem atI_map {α β : Type} {g : α → β} {l : List α} {i : Nat} {x : α} (h : l[i]? = some x) : atI (l.map g) (i : Int) = some (g x) := atI_nat (by rw [List.getElem?_map, h]; rfl)
theorem ok_instruction_at (F : Fun K "instruction_at" "instruction_at" (topS 11) f fd) : FnOk P w K mg base CX0 (k + 1) f fd ["program", "place"] (spR T 2 rAt) := by
  have S : FnScope ["program", "place", "thread", "at"] ["program", "place"] (defScope (topS 11)) := ⟨rfl, rfl, rfl, by decide +kernel, rfl, by decide +kernel, by decide +kernel⟩
  refine fun_okW F S (fun _ _ _ _ h => spR_len h) fun X cdv A outer s H vs Q E e c hr h => ?_
  subst e
  obtain ⟨ds, d, _, hd, ⟨p, t, a, i, hi, rfl, rfl⟩, q⟩ := h
  have g : Sg H (L2.start ["program", "place", "thread", "at"] vs) [.d (encProg p), .d (encPl (t, a)), .x, .x] := startN hd
  obtain ⟨r, h1, h2⟩ := insAt_row hi
  refine s_asg (T := T) (ev_v 1 g rfl) fun v H' l hv => g_tup2 c 2 3 (g.mono l.tk) hv fun σ' g' => ?_
  exact s_retD (T := T) (ev_ix (ev_ix (ev_v 0 g' rfl) (ev_v 2 g' rfl) (atI_map h1)) (ev_v 3 g' rfl) (atI_map h2)) fun v H2 l2 h => q v H2 (l.trans l2) h

/-! meets -/
def meetI (i j : Ins) : Bool := decide (i.var? = j.var?) && (i.stores || j.stores)
def rMeets : List PyData → PyData → Prop := fun ds d => ∃ (p : Prog) (t a t' a' : Nat) (i j : Ins), insAt p t a = some i ∧ insAt p t' a' = some j ∧ i.acc = true ∧ j.acc = true ∧ ds = [encProg p, encPl (t, a), encPl (t', a')] ∧ d = .bool (meetI i j)
theorem acc_var {i : Ins} (h : i.acc = true) : ∃ x, i.var? = some x := by cases i <;> first | exact ⟨_, rfl⟩ | cases h
theorem ok_meets (F : Fun K "meets" "meets" (topS 12) f fd) (C1 : Cal P w K mg base k "instruction_at" ["program", "place"] (spR T 2 rAt)) (C2 : Cal P w K mg base k "does_store" ["instruction"] (spR T 1 (rI Ins.stores))) :
    FnOk P w K mg base CX0 (k + 1) f fd ["program", "one", "other"] (spR T 3 rMeets) := by
  have S : FnScope ["program", "one", "other", "first", "second"] ["program", "one", "other"] (defScope (topS 12)) := ⟨rfl, rfl, rfl, by decide +kernel, rfl, by decide +kernel, by decide +kernel⟩
  refine fun_okW F S (fun _ _ _ _ h => spR_len h) fun X cdv A outer s H vs Q E e c hr h => ?_
  subst e
  obtain ⟨ds, d, _, hd, ⟨p, t, a, t', a', i, j, hi, hj, ai, aj, rfl, rfl⟩, q⟩ := h
  have g : Sg H (L2.start ["program", "one", "other", "first", "second"] vs) [.d (encProg p), .d (encPl (t, a)), .d (encPl (t', a')), .x, .x] := startN hd
  obtain ⟨x, hx⟩ := acc_var ai
  obtain ⟨y, hy⟩ := acc_var aj
  refine s_par (T := T) c 3 4 g (ev_callR C1 hr (ea_cons (ev_v 0 g rfl) (ea_1 (ev_v 1 g rfl))) ⟨p, t, a, i, hi, rfl, rfl⟩) (ev_callR C1 hr (ea_cons (ev_v 0 g rfl) (ea_1 (ev_v 2 g rfl))) ⟨p, t', a', j, hj, rfl, rfl⟩)
    fun v w σ' H' l _ _ g' => ?_
  refine s_retB (T := T) ((eb_and (eb_eqS (ev_i1 hx (ev_v 3 g' rfl) ev_int) (ev_i1 hy (ev_v 4 g' rfl) ev_int))
    fun _ => eb_or (eb_val (ev_callR C2 hr (ea_1 (ev_v 3 g' rfl)) ⟨i, rfl, rfl⟩)) fun _ => eb_val (ev_callR C2 hr (ea_1 (ev_v 4 g' rfl)) ⟨j, rfl, rfl⟩)).to ?_) fun v H2 l2 h => q v H2 (l.trans l2) h
  unfold meetI
  rw [hx, hy]
  simp
end
end RF
set_option Elab.async false
set_option linter.all false
set_option maxRecDepth 100000
set_option maxHeartbeats 4000000
namespace RF
open PySem PySem.Spec L2 LamX
open PyProof.Rows hiding St

abbrev kLine : Str := "line"
abbrev kLanes : Str := "lanes"
theorem n_ll : kLine ≠ kLanes := by decide +kernel
def seg {α : Type} (r : List α) (e l : Nat) : List α := (r.drop e).take (l - e)
theorem cutD_seg {α : Type} {enc : α → PyData} {r : List α} {e l : Nat} (h : e ≤ l) (hl : l ≤ r.length) : cutD (r.map enc) (some (e : Int)) (some (l : Int)) = (seg r e l).map enc := by
  unfold cutD seg
  rw [HT.sIx_nat, HT.sIx_nat, List.length_map, Nat.min_eq_left hl, Nat.min_eq_left (Nat.le_trans h hl), List.map_take, List.map_drop]
theorem filterMap_if {α β : Type} (p : α → Bool) (g : α → β) : ∀ L : List α, (L.filterMap fun z => if p z = true then some (g z) else none) = (L.filter p).map g
  | [] => rfl
  | x :: L => by
    cases h : p x <;> simp [h, filterMap_if p g L]
theorem filterMap_some {α β : Type} (g : α → β) : ∀ L : List α, (L.filterMap fun z => some (g z)) = L.map g
  | [] => rfl
  | x :: L => by simp [filterMap_some g L]
def Ins.isSt : Ins → Bool
  | .st _ => true
  | _ => false
theorem isSt_kind (i : Ins) : decide (i.kind = kSt) = i.isSt := by
  cases i <;> simp [Ins.kind, Ins.isSt, n_sl, n_sw, n_sf, n_lw, n_lf, n_wf, n_sl.symm, n_sw.symm, n_sf.symm]
def isLine (w : Str) : Bool := decide (w = kLine)
def queuedM (r : List Ins) (line : Bool) (e l : Nat) : Nat :=
  if line = true then ((seg r e l).filter Ins.isSt).length else (((seg r e l).filter Ins.isSt).filter fun i => decide (i.var? = (r[e]?).bind Ins.var?)).length
/-- a row that Python can hold here -/
def RowOk (r : List Ins) : Prop := r.length ≤ 1000 ∧ ∀ i ∈ r, ∀ x, i.var? = some x → PyData.strOk x = true

section
variable {P : Program} {w : World} {K : PySem.W.Frag} {mg : Str → Option Value} {base : Heap} {T : List (Addr × Str)} {f : Addr} {fd : FuncData} {k : Nat}
/-! queued -/
def rQueued : List PyData → PyData → Prop := fun ds d => ∃ (r : List Ins) (wd : Str) (e l : Nat) (x : Str), e ≤ l ∧ l ≤ r.length ∧ r.length ≤ 1000 ∧ r[e]? = some (.st x) ∧ ds = [encRow r, .str wd, .int e, .int l] ∧ d = .int (queuedM r (isLine wd) e l)
abbrev nQ : List Str := ["instructions", "word", "early", "late", "some", "one"]
theorem ok_queued (M : Nm mg) (F : Fun K "queued" "queued" (topS 14) f fd) : FnOk P w K mg base CX0 (k + 1) f fd ["instructions", "word", "early", "late"] (spR T 4 rQueued) := by
  have S : FnScope nQ ["instructions", "word", "early", "late"] (defScope (topS 14)) := ⟨rfl, rfl, rfl, by decide +kernel, rfl, by decide +kernel, by decide +kernel⟩
  refine fun_okW F S (fun _ _ _ _ h => spR_len h) fun X cdv A outer s H vs Q E e c hr h => ?_
  subst e
  obtain ⟨ds, d, _, hd, ⟨r, wd, e, l, x, hel, hl, hlen, hx, rfl, rfl⟩, q⟩ := h
  have g : Sg H (L2.start nQ vs) [.d (encRow r), .d (.str wd), .d (.int e), .d (.int l), .x, .x] := startN hd
  obtain ⟨t1, m1⟩ := M.store
  obtain ⟨t2, m2⟩ := M.line
  have hsl : (seg r e l).length ≤ 100000 := by
    unfold seg
    rw [List.length_take, List.length_drop]
    omega
  -- some = [one for one in instructions[early:late] if one[0] == STORE]
  refine s_setLc (T := T) c 4 g (enc := encI) (L := seg r e l) (ei_tup ((ev_slT (ev_v 0 g rfl) (.so (ev_v 2 g rfl)) (.so (ev_v 3 g rfl))).to (by rw [cutD_seg hel hl]))) 5
    (fun z => if z.isSt = true then some (encI z) else none) (fun z H' σ2 Xb hz l' hb g2 => ?_) hsl (blkOk_by (N := nQ) (sc := defScope (topS 14)) (by decide +kernel)) (fun p xs σ' H' hp l' hp2 hxs g' => ?_) (sw_true rfl rfl rfl (by decide +kernel))
  · obtain ⟨s0, H0, C, cl, fp, rfl⟩ := hb
    refine ⟨(et_one ((eb_eqS (ev_i0 (ev_v 5 g2 rfl) ev_int) (ev_gs m1)).to ?_).t), fun d hd => ?_⟩
    · rw [isSt_kind]
      cases h : z.isSt <;> rfl
    · cases h : z.isSt <;> rw [h] at hd
      · cases hd
      · cases hd
        exact ev_v 5 g2 rfl
  rw [filterMap_if] at hxs
  refine s_retD (T := T) (ev_if (s := .d (.int (queuedM r (isLine wd) e l))) (eb_eqS (ev_v 1 g' rfl) (ev_gs m2)).t (fun h => ?_) (fun h => ?_)) fun v H2 l2 hv => q v H2 (l'.trans l2) hv
  · refine (ev_lenL (ev_v 4 g' rfl) hp2 M.len).to ?_
    unfold queuedM isLine
    rw [h, hxs.len, List.length_map]
    rfl
  · refine (ev_lenN (ev_lc c (enc := encI) (L := (seg r e l).filter Ins.isSt) (ei_lst (ev_v 4 g' rfl) hp2 hxs) 5 g' (fun z => if decide (z.var? = (r[e]?).bind Ins.var?) = true then some (encI z) else none) (fun z H' σ2 Xb hz l' hb g2 => ?_) (Nat.le_trans (List.length_filter_le _ _) hsl) (blkOk_by (N := nQ) (sc := defScope (topS 14)) (own := [("one", 5)]) (by decide +kernel))) M.len).to ?_
    · obtain ⟨s0, H0, C, cl, fp, rfl⟩ := hb
      have hz2 : z.isSt = true := (List.mem_filter.mp hz).2
      obtain ⟨y, rfl⟩ : ∃ y, z = .st y := by cases z <;> first | exact ⟨_, rfl⟩ | cases hz2
      refine ⟨(et_one ((eb_eqS (ev_i1 (x := y) rfl (ev_v 5 g2 rfl) ev_int) (ev_i1 (x := x) rfl (ev_ix (ev_v 0 g2 rfl) (ev_v 2 g2 rfl) (atI_map hx)) ev_int)).to ?_).t), fun d hd => ?_⟩
      · rw [hx]
        by_cases h : y = x <;> simp [Ins.var?, h]
      · split at hd
        · cases hd
          exact ev_v 5 g2 rfl
        · cases hd
    · unfold queuedM isLine
      rw [h, filterMap_if, List.length_map]
      rfl
theorem room65 {j : Nat} {A : Around} (r : Room j A) : A.units + 65 < cLine := by have := r.un; omega
/-! x in a tuple of data -/
end
section
variable {T : List (Addr × Str)} {X : Cx} {a b : Expr} {σ : St} {H : Hp} {pos : Pos} {d : PyData} {ds : List PyData}
def rInDT (K : PySem.W.Frag) (neg : Bool) : R2 := fun x y H Q => ∃ d ds, Dp K H x d ∧ Dp K H y (.tuple ds) ∧ SeqAt.shaped d = true ∧ SeqAt.shaped (.tuple ds) = true ∧ Q (.bl (if neg then !ds.any fun z => PyData.eqv z d else ds.any fun z => PyData.eqv z d)) H
theorem canLay_tup (h : SeqAt.shaped (.tuple ds) = true) : PyData.canLayAll0 ds = true := by
  have := SeqAt.canLay_of_shaped h
  rwa [PyData.canLay0] at this
theorem op_notInDT (hu : X.A.units + 65 < cLine) : OpR X (compareOp .NotIn) (rInDT X.K true) := by
  intro pins s σ H x y v u Q I rx ry h
  obtain ⟨d, ds, hd, he, sd, se, q⟩ := h
  obtain ⟨as, r1⟩ := Dp.reads I d x v hd rx
  obtain ⟨bs, r2⟩ := Dp.reads I (.tuple ds) y u he ry
  exact SeqAt.notIn_tuple_reads r2 r1 (canLay_tup se) (SeqAt.canLay_of_shaped sd) (room_in_shaped sd hu) ⟨.bl _, H, I, rfl, q⟩
theorem op_inDT (hu : X.A.units + 65 < cLine) : OpR X (compareOp .In) (rInDT X.K false) := by
  intro pins s σ H x y v u Q I rx ry h
  obtain ⟨d, ds, hd, he, sd, se, q⟩ := h
  obtain ⟨as, r1⟩ := Dp.reads I d x v hd rx
  obtain ⟨bs, r2⟩ := Dp.reads I (.tuple ds) y u he ry
  exact SeqAt.in_tuple_reads r2 r1 (canLay_tup se) (SeqAt.canLay_of_shaped sd) (room_in_shaped sd hu) ⟨.bl _, H, I, rfl, q⟩
theorem eb_notInT (hu : X.A.units + 65 < cLine) (ha : EvD T X a σ H d) (hb : EvD T X b σ H (.tuple ds)) (s1 : SeqAt.shaped d = true) (s2 : SeqAt.shaped (.tuple ds) = true) (hm : behindInMarks .NotIn b = false := by with_unfolding_all rfl) : EB T X (.Compare a [.NotIn] [b] pos) σ H (!ds.any fun z => PyData.eqv z d) :=
  eb_cmp (op_notInDT hu) ha hb hm fun v w H3 Q _ h2 h3 q => by
    obtain ⟨_, e, h2⟩ := h2
    cases e
    obtain ⟨_, e, h3⟩ := h3
    cases e
    exact ⟨d, ds, h2.dp, h3.dp, s1, s2, q⟩
/-- in, not in a list of data that stands -/
theorem eb_notInL {r : Addr} {xs : List V} (hu : X.A.units + 65 < cLine) (ha : EvD T X a σ H d) (hb : Ev T X b σ H (.v (.ref r))) (hr : H r = some (.lst xs)) (hx : DtL H xs ds) (s1 : SeqAt.shaped d = true) (s2 : SeqAt.shaped (.list ds) = true) (hm : behindInMarks .NotIn b = false := by with_unfolding_all rfl) : EB T X (.Compare a [.NotIn] [b] pos) σ H (!ds.any fun z => PyData.eqv z d) :=
  eb_cmp (op_notInD hu) ha hb hm fun v w H3 Q l h2 h3 q => by
    obtain ⟨_, e, h2⟩ := h2
    cases e
    have h3' : some w = some (V.ref r) := h3
    cases h3'
    exact ⟨d, ds, h2.dp, .lst (SqL.of (l.lst hr)) (hx.mono l.tk).dp, s1, s2, q⟩
theorem eb_inL {r : Addr} {xs : List V} (hu : X.A.units + 65 < cLine) (ha : EvD T X a σ H d) (hb : Ev T X b σ H (.v (.ref r))) (hr : H r = some (.lst xs)) (hx : DtL H xs ds) (s1 : SeqAt.shaped d = true) (s2 : SeqAt.shaped (.list ds) = true) (hm : behindInMarks .In b = false := by with_unfolding_all rfl) : EB T X (.Compare a [.In] [b] pos) σ H (ds.any fun z => PyData.eqv z d) :=
  eb_cmp (op_inD hu) ha hb hm fun v w H3 Q l h2 h3 q => by
    obtain ⟨_, e, h2⟩ := h2
    cases e
    have h3' : some w = some (V.ref r) := h3
    cases h3'
    exact ⟨d, ds, h2.dp, .lst (SqL.of (l.lst hr)) (hx.mono l.tk).dp, s1, s2, q⟩
end
/-! is_turnable -/
def Ins.isLd : Ins → Bool
  | .ld _ => true
  | _ => false
theorem isLd_kind (i : Ins) : decide (i.kind = kLd) = i.isLd := by
  cases i <;> simp [Ins.kind, Ins.isLd, n_sl, n_sw, n_sf, n_lw, n_lf, n_wf, n_sl.symm, n_lw.symm, n_lf.symm]
def turnM (r : List Ins) (lanes : Bool) (e l : Nat) (i j : Ins) : Bool :=
  !(!i.isSt || (!j.acc || decide (i.var? = j.var?))) && !((seg r (e + 1) (l + 1)).any Ins.empt) && (lanes || (j.isLd && !(seg r (e + 1) l).any fun z => z.isSt && decide (z.var? = j.var?)))
theorem shaped_row {r : List Ins} (h : RowOk r) : SeqAt.shaped (encRow r) = true := by
  have h1 : ∀ l : List Ins, (∀ i ∈ l, ∀ x, i.var? = some x → PyData.strOk x = true) → PyData.canLayAll0 (l.map encI) = true ∧ PyData.depthAll (l.map encI) ≤ 1 := by
    intro l
    induction l with
    | nil => intro _; exact ⟨by simp [PyData.canLayAll0], by simp [PyData.depthAll]⟩
    | cons i l ih =>
      intro h
      obtain ⟨a1, a2⟩ := ih fun j hj => h j (List.mem_cons_of_mem _ hj)
      have b := encI_shaped (h i List.mem_cons_self)
      have b1 := SeqAt.canLay_of_shaped b
      refine ⟨by simp [PyData.canLayAll0, b1, a1], ?_⟩
      have b2 : (encI i).depth ≤ 1 := by cases i <;> simp [encI, PyData.depth, PyData.depthAll]
      simp only [List.map_cons, PyData.depthAll]
      omega
  obtain ⟨a1, a2⟩ := h1 r h.2
  have h2 : (encRow r).depth ≤ 64 := by
    simp only [PyData.depth]
    omega
  show ((encRow r).canLay0 && decide ((encRow r).depth ≤ 64)) = true
  rw [Bool.and_eq_true]
  exact ⟨by simp only [PyData.canLay0]; exact a1, decide_eq_true h2⟩
theorem RowOk.seg {r : List Ins} (h : RowOk r) (e l : Nat) : RowOk (seg r e l) :=
  ⟨by have := h.1; show ((r.drop e).take (l - e)).length ≤ 1000; rw [List.length_take, List.length_drop]; omega, fun i hi => h.2 i (List.drop_subset _ _ (List.take_subset _ _ hi))⟩
theorem eqv_encI (i j : Ins) : PyData.eqv (encI i) (encI j) = decide (i = j) := by
  cases i <;> cases j <;> simp [encI, PyData.eqv, PyData.eqvAll, n_sl, n_sw, n_sf, n_lw, n_lf, n_wf, n_sl.symm, n_sw.symm, n_sf.symm, n_lw.symm, n_lf.symm, n_wf.symm]
  all_goals
    rename_i x y
    by_cases h : x = y <;> simp [h]
section
variable {P : Program} {w : World} {K : PySem.W.Frag} {mg : Str → Option Value} {base : Heap} {T : List (Addr × Str)} {f : Addr} {fd : FuncData} {k : Nat}
def rTurn : List PyData → PyData → Prop := fun ds d => ∃ (r : List Ins) (wd : Str) (e l : Nat) (i j : Ins), e < l ∧ l < r.length ∧ RowOk r ∧ r[e]? = some i ∧ r[l]? = some j ∧ ds = [encRow r, .str wd, .int e, .int l] ∧ d = .bool (turnM r (decide (wd = kLanes)) e l i j)
abbrev nT : List Str := ["instructions", "word", "early", "late", "first", "second", "one"]
theorem ok_is_turnable (M : Nm mg) (F : Fun K "is_turnable" "is_turnable" (topS 15) f fd) (C1 : Cal P w K mg base k "is_access_to" ["instruction"] (spR T 1 (rI Ins.acc))) (C2 : Cal P w K mg base k "empties" ["instruction"] (spR T 1 (rI Ins.empt))) :
    FnOk P w K mg base CX0 (k + 1) f fd ["instructions", "word", "early", "late"] (spR T 4 rTurn) := by
  have S : FnScope nT ["instructions", "word", "early", "late"] (defScope (topS 15)) := ⟨rfl, rfl, rfl, by decide +kernel, rfl, by decide +kernel, by decide +kernel⟩
  refine fun_okW F S (fun _ _ _ _ h => spR_len h) fun X cdv A outer s H vs Q E e c hr h => ?_
  subst e
  obtain ⟨ds, d, _, hd, ⟨r, wd, e, l, i, j, hel, hl, hR, hi, hj, rfl, rfl⟩, q⟩ := h
  have g : Sg H (L2.start nT vs) [.d (encRow r), .d (.str wd), .d (.int e), .d (.int l), .x, .x, .x] := startN hd
  obtain ⟨t1, m1⟩ := M.store
  obtain ⟨t2, m2⟩ := M.lanes
  obtain ⟨t3, m3⟩ := M.load
  have e1 : ((e : Int) + 1) = ((e + 1 : Nat) : Int) := by omega
  have l1 : ((l : Int) + 1) = ((l + 1 : Nat) : Int) := by omega
  refine s_par (T := T) c 4 5 g (ev_ix (ev_v 0 g rfl) (ev_v 2 g rfl) (atI_map hi)) (ev_ix (ev_v 0 g rfl) (ev_v 3 g rfl) (atI_map hj)) fun v v' σ1 H1 L1 _ _ g1 => ?_
  refine s_if0 (T := T) (eb_or3 (eb_neS (ev_i0 (ev_v 4 g1 rfl) ev_int) (ev_gs m1)) (fun _ => eb_not (eb_val (ev_callR C1 hr (ea_1 (ev_v 5 g1 rfl)) ⟨j, rfl, rfl⟩))) (k2 := decide (i.var? = j.var?)) fun h1 h2 => ?_) (fun h H2 L2 => ?_) fun h H2 L2 => ?_
  · have hi2 : i.isSt = true := by rw [isSt_kind] at h1; cases hh : i.isSt <;> rw [hh] at h1 <;> first | rfl | cases h1
    have hj2 : j.acc = true := by cases hh : j.acc <;> rw [hh] at h2 <;> first | rfl | cases h2
    obtain ⟨x, hx⟩ : ∃ x, i.var? = some x := by cases i <;> first | exact ⟨_, rfl⟩ | cases hi2
    obtain ⟨y, hy⟩ := acc_var hj2
    refine (eb_eqS (ev_i1 hx (ev_v 4 g1 rfl) ev_int) (ev_i1 hy (ev_v 5 g1 rfl) ev_int)).to ?_
    rw [hx, hy]
    simp
  · refine s_retD (T := T) ev_bl fun v H3 L3 hv => q v H3 (L1.trans (L2.trans L3)) ?_
    unfold turnM
    rw [← isSt_kind, h]
    exact hv
  · have g2 := g1.mono L2.tk
    have hsl : (seg r (e + 1) (l + 1)).length ≤ 100000 := Nat.le_trans (hR.seg _ _).1 (by decide)
    refine s_if0 (T := T) (k := (seg r (e + 1) (l + 1)).any Ins.empt) ?_ (fun h' H3 L3 => ?_) fun h' H3 L3 => ?_
    · refine EB.to (eb_any (bs := (seg r (e + 1) (l + 1)).map Ins.empt) c ?_ M.any) List.any_map
      refine EvL.to (ev_lc c (enc := encI) (L := seg r (e + 1) (l + 1)) (ei_tup (EvD.to (ev_slT (ev_v 0 g2 rfl) (.so (EvD.to (ev_add (ev_v 2 g2 rfl) ev_int) (by rw [e1]))) (.so (EvD.to (ev_add (ev_v 3 g2 rfl) ev_int) (by rw [l1])))) (by rw [cutD_seg (by omega) (by omega)]))) 6 g2
        (fun z => some (.bool z.empt)) (fun z H' σ2 Xb hz l' hb g3 => ?_) hsl (blkOk_by (N := nT) (sc := defScope (topS 15)) (own := [("one", 6)]) (by decide +kernel))) (by rw [filterMap_some, List.map_map]; rfl)
      obtain ⟨s0, H0, C, cl, fp, rfl⟩ := hb
      refine ⟨et_nil, fun d hd => ?_⟩
      cases hd
      exact ev_callR C2 hr (ea_1 (ev_v 6 g3 rfl)) ⟨z, rfl, rfl⟩
    · refine s_retD (T := T) ev_bl fun v H4 L4 hv => q v H4 (L1.trans (L2.trans (L3.trans L4))) ?_
      unfold turnM
      rw [h', Bool.not_true, Bool.and_false, Bool.false_and]
      exact hv
    · have g3 := g2.mono L3.tk
      have hi2 : i.isSt = true := by rw [isSt_kind] at h; cases hh : i.isSt <;> rw [hh] at h <;> first | rfl | cases h
      have hj2 : j.acc = true := by cases hh : j.acc <;> rw [hh] at h <;> first | rfl | (simp at h)
      obtain ⟨y, hy⟩ := acc_var hj2
      refine s_retB (T := T) (b := turnM r (decide (wd = kLanes)) e l i j) ?_ fun v H4 L4 hv => q v H4 (L1.trans (L2.trans (L3.trans L4))) hv
      refine EB.to (eb_or (eb_eqS (ev_v 1 g3 rfl) (ev_gs m2)) fun _ => eb_and (eb_eqS (ev_i0 (ev_v 5 g3 rfl) ev_int) (ev_gs m3)) fun _ => eb_notInT (room65 hr) (ev_tup (ds := [.str kSt, .str y]) (ea_cons (ev_gs m1) (ea_1 (ev_i1 hy (ev_v 5 g3 rfl) ev_int))))
        (EvD.to (ev_slT (ev_v 0 g3 rfl) (.so (EvD.to (ev_add (ev_v 2 g3 rfl) ev_int) (by rw [e1]))) (.so (ev_v 3 g3 rfl))) (by rw [cutD_seg (by omega) (by omega)])) (encI_shaped (i := .st y) fun x hx => ?_) (shaped_row (hR.seg _ _))) ?_
      · cases hx
        have hm : j ∈ r := List.mem_of_getElem? hj
        exact hR.2 j hm _ hy
      · unfold turnM
        rw [h', ← isSt_kind, h, isLd_kind, hy]
        have e2 : ((seg r (e + 1) l).map encI).any (fun z => PyData.eqv z (.tuple [.str kSt, .str y])) = (seg r (e + 1) l).any fun z => z.isSt && decide (z.var? = some y) := by
          rw [List.any_map]
          refine List.any_congr rfl fun z => ?_
          show PyData.eqv (encI z) (encI (.st y)) = _
          rw [eqv_encI]
          cases z <;> simp [Ins.isSt, Ins.var?]
        rw [e2]
        simp
end
end RF
set_option Elab.async false
set_option linter.all false
set_option maxRecDepth 100000
set_option maxHeartbeats 4000000
namespace RF
open PySem PySem.Spec L2 LamX
open PyProof.Rows hiding St

abbrev Tri := Nat × Nat × Nat
abbrev encT (x : Tri) : PyData := .tuple [.int (x.1 : Int), .int (x.2.1 : Int), .int (x.2.2 : Int)]
abbrev encBuf (wd : Str) (room : Int) : PyData := .tuple [.str wd, .int room]
def ProgOk (p : Prog) : Prop := p.length ≤ 6 ∧ ∀ r ∈ p, r.length ≤ 16 ∧ ∀ i ∈ r, ∀ x, i.var? = some x → PyData.strOk x = true
theorem ProgOk.row {p : Prog} (h : ProgOk p) {r : List Ins} (hr : r ∈ p) : RowOk r := ⟨Nat.le_trans (h.2 r hr).1 (by decide), (h.2 r hr).2⟩
def tst (r : List Ins) (wd : Str) (room : Int) (e l : Nat) : Bool :=
  match r[e]?, r[l]? with
  | some i, some j => turnM r (decide (wd = kLanes)) e l i j && decide ((queuedM r (isLine wd) e l : Int) ≤ room)
  | _, _ => false
def looseE (r : List Ins) (wd : Str) (room : Int) (t e : Nat) : List Tri := (List.range' (e + 1) (r.length - (e + 1))).flatMap fun l => if tst r wd room e l = true then [(t, e, l)] else []
def looseR (wd : Str) (room : Int) (x : List Ins × Nat) : List Tri := (List.range x.1.length).flatMap fun e => looseE x.1 wd room x.2 e
def looseM (p : Prog) (wd : Str) (room : Int) : List Tri := p.zipIdx.flatMap (looseR wd room)
theorem flat_le {α β : Type} (F : α → List β) (k : Nat) : ∀ L : List α, (∀ x ∈ L, (F x).length ≤ k) → (L.flatMap F).length ≤ L.length * k
  | [], _ => by simp
  | x :: L, h => by
    have ih := flat_le F k L fun y hy => h y (List.mem_cons_of_mem _ hy)
    have h1 := h x List.mem_cons_self
    rw [List.flatMap_cons, List.length_append, List.length_cons, Nat.add_mul]
    omega
theorem looseE_le (r : List Ins) (wd : Str) (room : Int) (t e : Nat) (hr : r.length ≤ 16) : (looseE r wd room t e).length ≤ 16 := by
  refine Nat.le_trans (flat_le _ 1 _ fun l _ => ?_) ?_
  · split <;> simp
  · rw [List.length_range']; omega
theorem looseR_le (wd : Str) (room : Int) (x : List Ins × Nat) (hr : x.1.length ≤ 16) : (looseR wd room x).length ≤ 256 := by
  refine Nat.le_trans (flat_le _ 16 _ fun e _ => looseE_le _ _ _ _ _ hr) ?_
  rw [List.length_range]; omega
theorem mem_zipIdx_row {p : Prog} {x : List Ins × Nat} (h : x ∈ p.zipIdx) : x.1 ∈ p ∧ p[x.2]? = some x.1 := by
  obtain ⟨r, t⟩ := x
  rw [List.mem_zipIdx_iff_getElem?] at h
  exact ⟨List.mem_of_getElem? h, h⟩
theorem looseM_le (p : Prog) (wd : Str) (room : Int) (hp : ProgOk p) : (looseM p wd room).length ≤ 1536 := by
  refine Nat.le_trans (flat_le _ 256 _ fun x hx => looseR_le _ _ _ (hp.2 x.1 (mem_zipIdx_row hx).1).1) ?_
  rw [List.length_zipIdx]
  have := hp.1
  omega

theorem ev_lenRow {T : List (Addr × Str)} {X : Cx} {a : Expr} {σ : St} {H : Hp} {pos p : Pos} {α : Type} {enc : α → PyData} {r : List α} (h : EvD T X a σ H (.tuple (r.map enc))) (hm : X.mg "len" = none) (hg : Gl X "len" := by rfl) (hst : starEach [a] X.env = (false, eval a X.env) :: starEach [] X.env := by rfl) (hpl : (backTo pos (starEach [] X.env)).any (·.1) = false := by rfl) :
    EvD T X (.Call (.Name "len" p) [a] [] pos) σ H (.int (r.length : Nat)) := (ev_lenT h hm hg hst hpl).to (by rw [List.length_map])
section
variable {P : Program} {w : World} {K : PySem.W.Frag} {mg : Str → Option Value} {base : Heap} {T : List (Addr × Str)} {f : Addr} {fd : FuncData} {k : Nat}
def rLoose : List PyData → PyData → Prop := fun ds d => ∃ (p : Prog) (wd : Str) (room : Int), ProgOk p ∧ ds = [encProg p, encBuf wd room] ∧ d = .tuple ((looseM p wd room).map encT)
abbrev nL : List Str := ["program", "buffers", "word", "room", "found", "thread", "instructions", "early", "late"]
theorem ok_loose_pairs (M : Nm mg) (F : Fun K "loose_pairs" "loose_pairs" (topS 16) f fd) (C1 : Cal P w K mg base k "is_turnable" ["instructions", "word", "early", "late"] (spR T 4 rTurn)) (C2 : Cal P w K mg base k "queued" ["instructions", "word", "early", "late"] (spR T 4 rQueued)) :
    FnOk P w K mg base CX0 (k + 1) f fd ["program", "buffers"] (spR T 2 rLoose) := by
  have S : FnScope nL ["program", "buffers"] (defScope (topS 16)) := ⟨rfl, rfl, rfl, by decide +kernel, rfl, by decide +kernel, by decide +kernel⟩
  refine fun_okW F S (fun _ _ _ _ h => spR_len h) fun X cdv A outer s H vs Q E e c hr h => ?_
  subst e
  obtain ⟨ds, d, _, hd, ⟨p, wd, room, hp, rfl, rfl⟩, q⟩ := h
  have g : Sg H (L2.start nL vs) [.d (encProg p), .d (encBuf wd room), .x, .x, .x, .x, .x, .x, .x] := startN hd
  -- word, room = buffers
  refine s_asg (T := T) (ev_v 1 g rfl) fun v H1 l1 hv => g_tup2 c 2 3 (g.mono l1.tk) hv fun σ1 g1 => ?_
  -- found = []
  refine s_setN (T := T) c 4 g1 (ev_lst (ds := []) ea_nil) fun q0 xs σ2 H2 hq l2 hq2 hxs g2 => ?_
  have hq0 : H q0 = none := l1.fr q0 hq
  -- for thread, instructions in enumerate(program)
  refine s_forA (T := T) c (enc := encE encRow) (L := p.zipIdx) (ei_enumT (ev_v 0 g2 rfl) M.enumerate) (δ := [.d (encProg p), .x, .d (.str wd), .d (.int room), .v (.ref q0), .x, .x, .x, .x]) (g2.forget 1) hq2 hxs (fun x => (looseR wd room x).map encT) (fun _ z => z.elim)
    (fun x v σ' H' ys ds hx L' g' hp' hy hb dv => ?_) fun σ' H' ys L' g' hp' hy => ?_
  · -- a thread
    obtain ⟨r, t⟩ := x
    have hrow := mem_zipIdx_row hx
    have hR := hp.row hrow.1
    have hlen : r.length ≤ 16 := (hp.2 _ hrow.1).1
    have eR : (looseR wd room (r, t)).map encT = (List.range r.length).flatMap fun e => (looseE r wd room t e).map encT := by
      unfold looseR
      rw [List.map_flatMap]
    have hB : ds.length + ((looseR wd room (r, t)).map encT).length ≤ 1536 := by
      have h1 := looseM_le p wd room hp
      unfold looseM at h1
      rw [← List.length_map (f := encT), List.map_flatMap] at h1
      simp only [List.length_nil] at hb
      omega
    refine g_tup2 c 5 6 g' ⟨_, rfl, dv⟩ fun σ3 g3 => ?_
    have g3' : Sg H' σ3 [.d (encProg p), .x, .d (.str wd), .d (.int room), .v (.ref q0), .d (.int t), .d (encRow r), .x, .x] := g3
    refine s_forA (T := T) c (enc := encN) (L := List.range r.length) (ei_range1 (ea_1 (ev_lenRow (ev_v 6 g3' rfl) M.len)) (by omega) M.range) g3' hp' hy (fun e => (looseE r wd room t e).map encT) (fun _ z => z.elim)
      (fun e v' σ4 H4 ys4 ds4 he L4 g4 hp4 hy4 hb4 dv4 => ?_) fun σ4 H4 ys4 L4 g4 hp4 hy4 => ?_
    · -- an early one
      have he' : e < r.length := List.mem_range.mp he
      rw [← eR] at hb4
      have eE : (looseE r wd room t e).map encT = (List.range' (e + 1) (r.length - (e + 1))).flatMap fun l => (if tst r wd room e l = true then [(t, e, l)] else []).map encT := by
        unfold looseE
        rw [List.map_flatMap]
      refine g_name (s := .d (.int (e : Int))) c 7 g4 ⟨_, rfl, dv4⟩ fun σ5 g5 => ?_
      have g5' : Sg H4 σ5 [.d (encProg p), .x, .d (.str wd), .d (.int room), .v (.ref q0), .d (.int t), .d (encRow r), .d (.int e), .x] := g5
      refine s_forA (T := T) c (enc := encN) (L := List.range' (e + 1) (r.length - (e + 1))) (ei_range2 (ea_cons (EvD.to (ev_add (ev_v 7 g5' rfl) ev_int) (by rw [show ((e : Int) + 1) = ((e + 1 : Nat) : Int) by omega])) (ea_1 (ev_lenRow (ev_v 6 g5' rfl) M.len))) (by omega) (by omega) M.range) g5' hp4 hy4
        (fun l => (if tst r wd room e l = true then [(t, e, l)] else []).map encT) (fun _ z => z.elim) (fun l v6 σ6 H6 ys6 ds6 hl L6 g6 hp6 hy6 hb6 dv6 => ?_) fun σ6 H6 ys6 L6 g6 hp6 hy6 => ?_
      · have hl' : e < l ∧ l < r.length := by
          rw [List.mem_range'_1] at hl
          omega
        rw [← eE] at hb6
        refine g_name (s := .d (.int (l : Int))) c 8 g6 ⟨_, rfl, dv6⟩ fun σ7 g7 => ?_
        have g7' : Sg H6 σ7 [.d (encProg p), .x, .d (.str wd), .d (.int room), .v (.ref q0), .d (.int t), .d (encRow r), .d (.int e), .d (.int l)] := g7
        obtain ⟨i, hi⟩ : ∃ i, r[e]? = some i := ⟨_, List.getElem?_eq_getElem he'⟩
        obtain ⟨j, hj⟩ : ∃ j, r[l]? = some j := ⟨_, List.getElem?_eq_getElem hl'.2⟩
        have ht : tst r wd room e l = (turnM r (decide (wd = kLanes)) e l i j && decide ((queuedM r (isLine wd) e l : Int) ≤ room)) := by unfold tst; rw [hi, hj]
        refine s_if0 (T := T) (k := tst r wd room e l) ?_ (fun h H8 L8 => ?_) fun h H8 L8 => ?_
        · refine EB.to (eb_and (k := turnM r (decide (wd = kLanes)) e l i j) (k' := decide ((queuedM r (isLine wd) e l : Int) ≤ room)) ?_ fun h => ?_) ht.symm
          · refine eb_val ?_
            refine ev_callR (ds := [encRow r, .str wd, .int e, .int l]) C1 hr ?_ ?_
            · exact (ea_cons (ev_v 6 g7' rfl) (ea_cons (ev_v 2 g7' rfl) (ea_cons (ev_v 7 g7' rfl) (ea_1 (ev_v 8 g7' rfl)))))
            exact ⟨r, wd, e, l, i, j, hl'.1, hl'.2, hR, hi, hj, rfl, rfl⟩
          refine eb_le (i := queuedM r (isLine wd) e l) (j := room) ?_ (ev_v 3 g7' rfl)
          refine ev_callR (ds := [encRow r, .str wd, .int e, .int l]) C2 hr ?_ ?_
          · exact ea_cons (ev_v 6 g7' rfl) (ea_cons (ev_v 2 g7' rfl) (ea_cons (ev_v 7 g7' rfl) (ea_1 (ev_v 8 g7' rfl))))
          obtain ⟨x, hx⟩ : ∃ x, i = Ins.st x := by
            unfold turnM at h
            cases hh : i with
            | st x => exact ⟨x, rfl⟩
            | _ => rw [hh] at h; simp [Ins.isSt] at h
          exact ⟨r, wd, e, l, x, by omega, by omega, hR.1, by rw [hi, hx], rfl, rfl⟩
        · have g8 := g7'.mono L8.tk
          refine s_append (T := T) (ev_v 4 g8 rfl) (L8.lst hp6) (by have := hy6.len; omega) (ev_tup (ds := [.int t, .int e, .int l]) (ea_cons (ev_v 5 g8 rfl) (ea_cons (ev_v 7 g8 rfl) (ea_1 (ev_v 8 g8 rfl))))) fun v9 H9 L9 hv9 => s_nil ?_
          have hp9 := (L8.trans L9).lst hp6
          obtain ⟨_, e9, hv9⟩ := hv9
          cases e9
          refine s_nil ⟨LeX.updL (.of (L8.trans L9)) rfl hp9, (g8.mono L9.tk).mono (tk_lst hp9) |>.forget 8, _, upd_same, ?_⟩
          rw [h]
          exact (((hy6.mono (L8.trans L9).tk).append (.cons hv9 .nil))).mono (tk_lst hp9)
        · refine s_nil ⟨.of L8, (g7'.mono L8.tk).forget 8, ys6, L8.lst hp6, ?_⟩
          rw [h]
          show DtL H8 ys6 (ds6 ++ [])
          rw [List.append_nil]
          exact hy6.mono L8.tk
      · refine s_nil ⟨L6, g6.forget 7, ys6, hp6, ?_⟩
        rw [eE]
        exact hy6
    · refine s_nil ⟨L4, (g4.forget 5).forget 6, ys4, hp4, ?_⟩
      rw [eR]
      exact hy4
  · refine s_retD (T := T) (ev_tupL (ds := (looseM p wd room).map encT) (ev_v 4 g' rfl) hp' (by
      rw [List.nil_append] at hy
      unfold looseM
      rw [List.map_flatMap]
      exact hy) M.tuple) fun v H3 l3 hv => q v H3 ((L'.le (l1.trans l2) fun b hb => ?_).trans l3) hv
    rw [show b = q0 from hb]
    exact hq0
end
end RF
set_option Elab.async false
set_option linter.all false
set_option maxRecDepth 100000
set_option maxHeartbeats 4000000
namespace RF
open PySem PySem.Spec L2 LamX
open PyProof.Rows hiding St

def firstM (i : Ins) (r : List Ins) : Option Nat := r.findIdx? fun j => j.acc && meetI i j
def optI : Option Nat → PyData
  | none => .none
  | some n => .int (n : Int)
section
variable {P : Program} {w : World} {K : PySem.W.Frag} {mg : Str → Option Value} {base : Heap} {T : List (Addr × Str)} {f : Addr} {fd : FuncData} {k : Nat}
def rFirst : List PyData → PyData → Prop := fun ds d => ∃ (p : Prog) (t a t' : Nat) (i : Ins) (r : List Ins), insAt p t a = some i ∧ i.acc = true ∧ p[t']? = some r ∧ ds = [encProg p, encPl (t, a), .int t'] ∧ d = optI (firstM i r)
abbrev nF : List Str := ["program", "place", "thread", "at", "instruction"]
theorem ok_first_meeting (M : Nm mg) (F : Fun K "first_meeting" "first_meeting" (topS 17) f fd) (C1 : Cal P w K mg base k "is_access_to" ["instruction"] (spR T 1 (rI Ins.acc))) (C2 : Cal P w K mg base k "meets" ["program", "one", "other"] (spR T 3 rMeets)) :
    FnOk P w K mg base CX0 (k + 1) f fd ["program", "place", "thread"] (spR T 3 rFirst) := by
  have S : FnScope nF ["program", "place", "thread"] (defScope (topS 17)) := ⟨rfl, rfl, rfl, by decide +kernel, rfl, by decide +kernel, by decide +kernel⟩
  refine fun_okW F S (fun _ _ _ _ h => spR_len h) fun X cdv A outer s H vs Q E e c hr h => ?_
  subst e
  obtain ⟨ds, d, _, hd, ⟨p, t, a, t', i, r, hi, ai, hp, rfl, rfl⟩, q⟩ := h
  have g : Sg H (L2.start nF vs) [.d (encProg p), .d (encPl (t, a)), .d (.int t'), .x, .x] := startN hd
  refine s_forP (T := T) c (enc := encE encI) (L := r.zipIdx) (ei_enumT (ev_ix (ev_v 0 g rfl) (ev_v 2 g rfl) (atI_map hp)) M.enumerate) g (fun n => ∀ m j, m < n → r[m]? = some j → (j.acc && meetI i j) = false) (fun m j hm _ => absurd hm (Nat.not_lt_zero m))
    (fun H1 l1 n x v σ' H' hx hP l2 g2 dv => ?_) fun σ' H' hP l1 g1 => ?_
  · obtain ⟨y, n'⟩ := x
    rw [List.getElem?_zipIdx] at hx
    obtain ⟨y', hy, hx⟩ := Option.map_eq_some_iff.mp hx
    cases hx
    rw [Nat.zero_add] at dv
    have hjy : insAt p t' n = some y := by unfold insAt; rw [hp]; exact hy
    refine g_tup2 c 3 4 g2 ⟨_, rfl, dv⟩ fun σ3 g3 => ?_
    have g3' : Sg H' σ3 [.d (encProg p), .d (encPl (t, a)), .d (.int t'), .d (.int n), .d (encI y)] := g3
    refine s_if0 (T := T) (k := y.acc && meetI i y) ?_ (fun h H3 l3 => ?_) fun h H3 l3 => s_nil ⟨l2.trans l3, ((g3'.mono l3.tk).forget 3).forget 4, fun m j hm hj => ?_⟩
    · refine eb_and (eb_val (ev_callR C1 hr (ea_1 (ev_v 4 g3' rfl)) ⟨y, rfl, rfl⟩)) fun h => eb_val ?_
      refine ev_callR (ds := [encProg p, encPl (t, a), encPl (t', n)]) C2 hr ?_ ⟨p, t, a, t', n, i, y, hi, hjy, ai, h, rfl, rfl⟩
      exact ea_cons (ev_v 0 g3' rfl) (ea_cons (ev_v 1 g3' rfl) (ea_1 (ev_tup (ds := [.int t', .int n]) (ea_cons (ev_v 2 g3' rfl) (ea_1 (ev_v 3 g3' rfl))))))
    · refine s_retD (T := T) (EvD.to (d := .int n) (ev_v 3 (g3'.mono l3.tk) rfl) ?_) fun v H4 l4 hv => q v H4 (l1.trans (l2.trans (l3.trans l4))) hv
      have e : firstM i r = some n := by
        unfold firstM
        rw [List.findIdx?_eq_some_iff_getElem]
        obtain ⟨hn, e1⟩ := List.getElem?_eq_some_iff.mp hy
        refine ⟨hn, by rw [e1]; exact h, fun m hm => ?_⟩
        have := hP m r[m] hm (List.getElem?_eq_getElem (by omega))
        simp [this]
      rw [e]
      rfl
    · rcases Nat.lt_succ_iff_lt_or_eq.mp hm with z | z
      · exact hP m j z hj
      · subst z
        rw [hy] at hj
        cases hj
        exact h
  · refine s_retD (T := T) (EvD.to ev_non ?_) fun v H4 l4 hv => q v H4 (l1.trans l4) hv
    have e : firstM i r = none := by
      unfold firstM
      rw [List.findIdx?_eq_none_iff]
      intro j hj
      obtain ⟨m, hm⟩ := List.mem_iff_getElem?.mp hj
      refine hP m j ?_ hm
      rw [List.length_zipIdx]
      exact (List.getElem?_eq_some_iff.mp hm).1
    rw [e]
    rfl
end
end RF
set_option Elab.async false
set_option linter.all false
set_option maxRecDepth 100000
set_option maxHeartbeats 4000000
namespace RF
open PySem PySem.Spec L2 LamX
open PyProof.Rows hiding St

/-! ### isinstance of a number, of a tuple -/
theorem ty_int {K : PySem.W.Frag} {H : Hp} {v : V} {i : Int} (h : Dt H v (.int i)) : TyX K H v (.type "int") := by
  obtain rfl := h.inv_int
  exact .base (.int i)
theorem ty_tup {K : PySem.W.Frag} {H : Hp} {v : V} {ds : List PyData} (h : Dt H v (.tuple ds)) : TyX K H v (.type "tuple") := by
  obtain ⟨a, xs, rfl, ha, _⟩ := h.inv_tup
  exact .base (.tup ha)
theorem boot_int' : bootBuiltins "int" = some (.type "int") := by decide +kernel
theorem boot_bool' : bootBuiltins "bool" = some (.type "bool") := by decide +kernel
theorem boot_tuple' : bootBuiltins "tuple" = some (.type "tuple") := by decide +kernel
section
variable {T : List (Addr × Str)} {X : Cx} {a b : Expr} {σ : St} {H : Hp} {pos p p2 : Pos} {d : PyData}
theorem eb_isi {tn cn : String} {x : Str} {k : Bool} (ha : EvD T X a σ H d) (ht : ∀ H' v, Dt H' v d → TyX X.K H' v (.type tn)) (hk : PySem.W.kitOne X.K (.type tn) (.type cn) = some k) (hm : X.mg "isinstance" = none) (hx : X.mg x = none) (hb : bootBuiltins x = some (.type cn)) (hg : Gl X "isinstance" := by rfl) (hgx : Gl X x := by rfl)
    (hn : x ≠ "__name__" := by decide) (hdb : (x == ("__debug__" : Str)) = false := by decide) (h1 : starEach [a, .Name x p2] X.env = (false, eval a X.env) :: starEach [.Name x p2] X.env := by rfl) (h2 : starEach [.Name x p2] X.env = (false, eval (.Name x p2) X.env) :: starEach [] X.env := by rfl)
    (hpl : (backTo pos (starEach [.Name x p2] X.env)).any (·.1) = false := by rfl) (he : ∀ whole, isTrue (.Call (.Name "isinstance" p) [a, .Name x p2] [] pos) X.env whole = (do let v ← whole; standAt (Expr.pos (.Call (.Name "isinstance" p) [a, .Name x p2] [] pos)); holding [v] (truthy v)) := by intro _; rfl) :
    EB T X (.Call (.Name "isinstance" p) [a, .Name x p2] [] pos) σ H k := by
  refine eb_val (fun H1 l Q q => ?_) he
  refine w_pe (pe_callB call_isi hg hm PyProof.Rows.boot_isinstance (pa_cons pe_w (pa_cons (pe_bltn (v := .ty cn) hgx hx hb rfl hn hdb) pa_nil h2) h1) (by decide) (by decide) h1 hpl) (ha H1 l _ fun v H2 l2 h2 => ?_)
  obtain ⟨_, e, h2⟩ := h2
  cases e
  exact ⟨v, .ty cn, _, _, k, rfl, .ty cn, ht H2 v h2, hk, q _ H2 l2 ⟨_, rfl, .bl k⟩⟩
/-- (t1, t2) = a pair -/
theorem g_2 (c : Fx X) {v : V} {t1 t2 : Expr} {d e : PyData} {kk : Nat} {Q : St → Hp → Prop} (hv : SlOk H (some v) (.d (.tuple [d, e]))) (k : ∀ v1 v2, Dt H v1 d → Dt H v2 e → wG X t1 v1 σ H fun σ1 H1 => wG X t2 v2 σ1 H1 Q)
    (h1 : (assignEach [t1, t2] X.env).map (·.2) = assign t1 X.env :: (assignEach [t2] X.env).map (·.2) := by rfl) (h2 : (assignEach [t2] X.env).map (·.2) = assign t2 X.env :: (assignEach [] X.env).map (·.2) := by rfl)
    (hn : (assignEach [t1, t2] X.env).length = 2 := by rfl) (hst : (assignEach [t1, t2] X.env).findIdx? (·.1) = none := by rfl) : wG X (.Tuple [t1, t2] kk pos) v σ H Q := by
  refine w_pg (pg_tup c.calm (pgs_cons pg_w (pgs_cons pg_w pgs_nil h2) h1) hn hst) ?_
  obtain ⟨_, e, h⟩ := hv
  cases e
  obtain ⟨a, xs, rfl, ha, hd⟩ := h.inv_tup
  cases hd with
  | cons q1 t =>
    cases t with
    | cons q2 t =>
      cases t
      refine ⟨a, _, rfl, SqT.of ha, rfl, _, _, rfl, (k _ _ q1 q2).imp fun σ' H' w => ⟨_, _, rfl, w.imp fun σ2 H2 q => ⟨rfl, q⟩⟩⟩
end

section
variable {P : Program} {w : World} {K : PySem.W.Frag} {mg : Str → Option Value} {base : Heap} {T : List (Addr × Str)} {f : Addr} {fd : FuncData} {k : Nat}
/-! is_integer of a number -/
def rInt : List PyData → PyData → Prop := fun ds d => ∃ i : Int, ds = [.int i] ∧ d = .bool true
theorem ok_is_integer (M : Nm mg) (F : Fun K "is_integer" "is_integer" (topS 7) f fd) : FnOk P w K mg base CX0 (k + 1) f fd ["value"] (spR T 1 rInt) := by
  have S : FnScope ["value"] ["value"] (defScope (topS 7)) := ⟨rfl, rfl, rfl, by decide +kernel, rfl, by decide +kernel, by decide +kernel⟩
  refine fun_okW F S (fun _ _ _ _ h => spR_len h) fun X cdv A outer s H vs Q E e c hr h => ?_
  subst e
  obtain ⟨ds, d, _, hd, ⟨i, rfl, rfl⟩, q⟩ := h
  have g : Sg H (L2.start ["value"] vs) [.d (.int i)] := startN hd
  refine s_retB (T := T) (b := true) ?_ q
  refine EB.to (eb_and (k := true) (k' := !false) ?_ fun _ => eb_not ?_) rfl
  · exact eb_isi (ev_v 0 g rfl) (fun _ _ => ty_int) (kit_ty (by decide +kernel)) M.isinstance M.int boot_int'
  · exact eb_isi (ev_v 0 g rfl) (fun _ _ => ty_int) (kit_ty (by decide +kernel)) M.isinstance M.bool boot_bool'

/-! remedies: (swap?, thread, place) -/
abbrev Rem := Bool × Nat × Nat
abbrev wordOf (b : Bool) : Str := if b = true then kSw else kFe
abbrev encR (x : Rem) : PyData := .tuple [.str (wordOf x.1), .int (x.2.1 : Int), .int (x.2.2 : Int)]
def cutsM (x : Rem) (y : Tri) : Bool := decide (x.2.1 = y.1) && (decide (x.2.2 ≤ y.2.2) && (if x.1 = true then decide (y.2.1 ≤ x.2.2) else decide (y.2.1 < x.2.2)))
def rCuts : List PyData → PyData → Prop := fun ds d => ∃ (x : Rem) (y : Tri), ds = [encR x, encT y] ∧ d = .bool (cutsM x y)
abbrev nC : List Str := ["remedy", "pair", "word", "thread", "at", "own", "early", "late"]
theorem ok_cuts (M : Nm mg) (F : Fun K "cuts" "cuts" (topS 25) f fd) : FnOk P w K mg base CX0 (k + 1) f fd ["remedy", "pair"] (spR T 2 rCuts) := by
  have S : FnScope nC ["remedy", "pair"] (defScope (topS 25)) := ⟨rfl, rfl, rfl, by decide +kernel, rfl, by decide +kernel, by decide +kernel⟩
  refine fun_okW F S (fun _ _ _ _ h => spR_len h) fun X cdv A outer s H vs Q E e c hr h => ?_
  subst e
  obtain ⟨ds, d, _, hd, ⟨x, y, rfl, rfl⟩, q⟩ := h
  obtain ⟨b, t, a⟩ := x
  obtain ⟨o, e, l⟩ := y
  have g : Sg H (L2.start nC vs) [.d (encR (b, t, a)), .d (encT (o, e, l)), .x, .x, .x, .x, .x, .x] := startN hd
  obtain ⟨tk, mF⟩ := M.fence
  refine s_asg (T := T) (ev_tup (ds := [encR (b, t, a), encT (o, e, l)]) (ea_cons (ev_v 0 g rfl) (ea_1 (ev_v 1 g rfl)))) fun v H1 l1 hv => g_2 c hv fun v1 v2 d1 d2 => g_tup3 c 2 3 4 (g.mono l1.tk) ⟨_, rfl, d1⟩ fun σ1 g1 => g_tup3 c 5 6 7 g1 ⟨_, rfl, d2⟩ fun σ2 g2 => ?_
  have g2' : Sg H1 σ2 [.d (encR (b, t, a)), .d (encT (o, e, l)), .d (.str (wordOf b)), .d (.int t), .d (.int a), .d (.int o), .d (.int e), .d (.int l)] := g2
  refine s_if0 (T := T) (eb_or (eb_neI (ev_v 3 g2' rfl) (ev_v 5 g2' rfl)) fun _ => eb_gt (ev_v 4 g2' rfl) (ev_v 7 g2' rfl)) (fun h H3 l3 => ?_) fun h H3 l3 => ?_
  · refine s_retD (T := T) (EvD.to (d := .bool false) ev_bl ?_) fun v H4 l4 hv => q v H4 (l1.trans (l3.trans l4)) hv
    congr 1
    unfold cutsM
    simp only [Bool.or_eq_true, Bool.not_eq_true', decide_eq_false_iff_not, decide_eq_true_eq] at h
    symm
    simp only [Bool.and_eq_false_iff, decide_eq_false_iff_not]
    omega
  · have g3 := g2'.mono l3.tk
    simp only [Bool.or_eq_false_iff, Bool.not_eq_false', decide_eq_false_iff_not, decide_eq_true_eq] at h
    have e1 : cutsM (b, t, a) (o, e, l) = (if b = true then decide (e ≤ a) else decide (e < a)) := by
      unfold cutsM
      have h1 : t = o := by omega
      have h2 : a ≤ l := by omega
      simp [h1, h2]
    refine s_retD (T := T) (d := .bool (cutsM (b, t, a) (o, e, l))) ?_ fun v H4 l4 hv => q v H4 (l1.trans (l3.trans l4)) hv
    rw [e1]
    refine ev_if (eb_eqS (ev_v 2 g3 rfl) (ev_gs mF)).t (fun hk => ?_) fun hk => ?_
    · have hb : b = false := by
        cases b with
        | false => rfl
        | true => simp [wordOf, n_wf] at hk
      subst hb
      refine EvD.to (eb_lt (ev_v 6 g3 rfl) (ev_v 4 g3 rfl)).v ?_
      simp
    · have hb : b = true := by
        cases b with
        | true => rfl
        | false => simp [wordOf] at hk
      subst hb
      refine EvD.to (eb_le (ev_v 6 g3 rfl) (ev_v 4 g3 rfl)).v ?_
      simp
end
end RF
set_option Elab.async false
set_option linter.all false
set_option maxRecDepth 100000
set_option maxHeartbeats 4000000
namespace RF
open PySem PySem.Spec L2 LamX
open PyProof.Rows hiding St

/-! ### a list or a tuple of data -/
def IsSeq (H : Hp) (v : V) (ds : List PyData) : Prop := (∃ a xs, v = .ref a ∧ H a = some (.lst xs) ∧ DtL H xs ds) ∨ Dt H v (.tuple ds)
theorem IsSeq.le {T : List (Addr × Str)} {H H' : Hp} {v : V} {ds : List PyData} (h : IsSeq H v ds) (l : Le T H H') : IsSeq H' v ds := by
  rcases h with ⟨a, xs, e, h1, h2⟩ | h
  · exact .inl ⟨a, xs, e, l.lst h1, h2.mono l.tk⟩
  · exact .inr (h.mono l.tk)
section
variable {T : List (Addr × Str)} {X : Cx} {e a b : Expr} {σ : St} {H : Hp} {pos p p2 : Pos} {d : PyData} {rest : List Stmt} {D : Ends} {α : Type} {enc : α → PyData} {L : List α} {tg : Expr} {s : Sl}
theorem ei_seq {v : V} (h : Ev T X e σ H (.v v)) (hs : IsSeq H v (L.map enc)) : EvI T X tg e σ H (fun q => v = .ref q) enc L := by
  rcases hs with ⟨r, xs, rfl, hr, hd⟩ | hs
  · intro H1 l R q
    exact ei_lst h hr hd H1 l R fun J H2 l2 wk => q J H2 l2 ⟨fun H' i x kp => wk.go H' i x ⟨kp.1, fun p xs hp => kp.2 p xs (by rw [show p = r from hp])⟩, fun H' i kp => wk.stop H' i ⟨kp.1, fun p xs hp => kp.2 p xs (by rw [show p = r from hp])⟩⟩
  · intro H1 l R q
    have h' : EvD T X e σ H (.tuple (L.map enc)) := fun H1 l Q q => h H1 l Q fun v' H2 l2 h2 => by
      have e : some v' = some v := h2
      cases e
      exact q _ H2 l2 ⟨_, rfl, hs.mono (l.trans l2).tk⟩
    exact ei_tup h' H1 l R fun J H2 l2 wk => q J H2 l2 ⟨fun H' i x kp => wk.go H' i x ⟨kp.1, fun p xs hp => hp.elim⟩, fun H' i kp => wk.stop H' i ⟨kp.1, fun p xs hp => hp.elim⟩⟩
/-- l.extend(a new list) -/
theorem s_extend {o : Expr} {q : Addr} {xs : List V} {p3 : Pos} {ds : List PyData} (ho : Ev T X o σ H (.v (.ref q))) (hq : H q = some (.lst xs)) (he : EvL T X e σ H ds) (hl : xs.length + ds.length ≤ 100000)
    (k : ∀ ys H', Le T H H' → DtL H' ys ds → wSs X rest D σ (upd H' q (.lst (xs ++ ys))))
    (hbm : PE X (.Call (.Attribute o "extend" p2) [e] [] p3) (tBM X.K "list" rExtend (wE X o) (wA X [e])) := by exact pe_bm PySem.F.plainAttrs_list PySem.F.slot_list_extend PySem.F.type_list_extend mt_extend pe_w pa_w)
    (hst : starEach [e] X.env = (false, eval e X.env) :: starEach [] X.env := by rfl) (hs : swapsWith (.Call (.Attribute o "extend" p2) [e] [] p3) none pos.line X.env = pure false := by rfl) :
    wSs X (.Expr (.Call (.Attribute o "extend" p2) [e] [] p3) pos :: rest) D σ H := by
  refine s_cons (w_ps (ps_expr hbm hs) ?_)
  refine ho H (.refl H) _ fun v H2 l2 h2 => ?_
  have h2' : some v = some (V.ref q) := h2
  cases h2'
  have hq2 := l2.lst hq
  refine ⟨.inl ⟨rfl, xs, SqL.of hq2⟩, ?_⟩
  refine w_pa (pa_cons pe_w pa_nil hst) (he H2 l2 _ fun r zs H3 hn l3 h3 hd => ?_)
  exact ⟨q, r, xs, zs, rfl, rfl, l3.lst hq2, h3, Nat.le_trans (by rw [hd.len]; exact hl) (by decide), k zs H3 (l2.trans l3) hd⟩
end

section
variable {P : Program} {w : World} {K : PySem.W.Frag} {mg : Str → Option Value} {base : Heap} {T : List (Addr × Str)} {f : Addr} {fd : FuncData} {k : Nat}
/-! is_remedy -/
def isRemM (r : List Ins) (b : Bool) (a : Nat) : Bool := if b = true then decide (a < r.length) && ((r[a]?).map Ins.isSt).getD false else decide (a ≤ r.length)
def rIsRem : List PyData → PyData → Prop := fun ds d => ∃ (p : Prog) (b : Bool) (t a : Nat) (r : List Ins), p[t]? = some r ∧ ds = [encProg p, encR (b, t, a)] ∧ d = .bool (isRemM r b a)
abbrev nR : List Str := ["program", "value", "word", "thread", "at", "instructions"]
theorem ok_is_remedy (M : Nm mg) (F : Fun K "is_remedy" "is_remedy" (topS 24) f fd) (C1 : Cal P w K mg base k "is_integer" ["value"] (spR T 1 rInt)) : FnOk P w K mg base CX0 (k + 1) f fd ["program", "value"] (spR T 2 rIsRem) := by
  have S : FnScope nR ["program", "value"] (defScope (topS 24)) := ⟨rfl, rfl, rfl, by decide +kernel, rfl, by decide +kernel, by decide +kernel⟩
  refine fun_okW F S (fun _ _ _ _ h => spR_len h) fun X cdv A outer s H vs Q E e c hr h => ?_
  subst e
  obtain ⟨ds, d, _, hd, ⟨p, b, t, a, r, hp, rfl, rfl⟩, q⟩ := h
  have g : Sg H (L2.start nR vs) [.d (encProg p), .d (encR (b, t, a)), .x, .x, .x, .x] := startN hd
  obtain ⟨t1, m1⟩ := M.fence
  obtain ⟨t2, m2⟩ := M.swap
  obtain ⟨t3, m3⟩ := M.parts
  obtain ⟨t4, m4⟩ := M.store
  have ht : t < p.length := (List.getElem?_eq_some_iff.mp hp).1
  refine s_if0 (T := T) (k := false) ?_ (fun h => by cases h) fun _ H1 l1 => ?_
  · refine EB.to (eb_or3 (k := !true) (k' := !true) (k2 := !true) ?_ (fun _ => ?_) fun _ _ => ?_) rfl
    · exact eb_not (eb_isi (ev_v 1 g rfl) (fun _ _ => ty_tup) (kit_ty (by decide +kernel)) M.isinstance M.tuple boot_tuple')
    · exact EB.to (eb_neI (ev_lenT (ev_v 1 g rfl) M.len) (ev_gi m3)) rfl
    · refine EB.to (eb_notInS (ys := [kFe, kSw]) (ev_ix (d := .str (wordOf b)) (ev_v 1 g rfl) ev_int rfl) (ev_tup (ds := [.str kFe, .str kSw]) (ea_cons (ev_gs m1) (ea_1 (ev_gs m2))))) ?_
      cases b <;> simp [wordOf]
  have g1 := g.mono l1.tk
  refine s_asg (T := T) (ev_v 1 g1 rfl) fun v H2 l2 hv => g_tup3 c 2 3 4 (g1.mono l2.tk) hv fun σ2 g2 => ?_
  have g2' : Sg H2 σ2 [.d (encProg p), .d (encR (b, t, a)), .d (.str (wordOf b)), .d (.int t), .d (.int a), .x] := g2
  refine s_if0 (T := T) (k := false) ?_ (fun h => by cases h) fun _ H3 l3 => ?_
  · refine EB.to (eb_or3 (k := !true) (k' := !true) (k2 := !(decide ((0 : Int) ≤ t) && decide ((t : Int) < p.length))) ?_ (fun _ => ?_) fun _ _ => ?_) ?_
    · exact eb_not (eb_val (ev_callR C1 hr (ea_1 (ev_v 3 g2' rfl)) ⟨_, rfl, rfl⟩))
    · exact eb_not (eb_val (ev_callR C1 hr (ea_1 (ev_v 4 g2' rfl)) ⟨_, rfl, rfl⟩))
    · exact eb_not (eb_chain (f := fun i j => decide (i ≤ j)) (f' := fun i j => decide (i < j)) op_le op_lt ev_int (ev_v 3 g2' rfl) (ev_lenRow (ev_v 0 g2' rfl) M.len))
    · have h1 : (0 : Int) ≤ t := by omega
      have h2 : (t : Int) < p.length := by omega
      simp [h1, h2]
  have g3 := g2'.mono l3.tk
  refine s_set (T := T) c 5 g3 (ev_ix (d := encRow r) (ev_v 0 g3 rfl) (ev_v 3 g3 rfl) (atI_map hp)) fun v4 σ4 H4 l4 _ g4 => ?_
  have g4' : Sg H4 σ4 [.d (encProg p), .d (encR (b, t, a)), .d (.str (wordOf b)), .d (.int t), .d (.int a), .d (encRow r)] := g4
  have lAll := l1.trans (l2.trans (l3.trans l4))
  refine s_if0 (T := T) (k := !b) ?_ (fun h H5 l5 => ?_) fun h H5 l5 => ?_
  · refine EB.to (eb_eqS (ev_v 2 g4' rfl) (ev_gs m1)) ?_
    cases b <;> simp [wordOf, n_wf]
  · have hb : b = false := by cases b <;> simp_all
    subst hb
    have g5 := g4'.mono l5.tk
    refine s_retB (T := T) (b := isRemM r false a) (EB.to (eb_chain (f := fun i j => decide (i ≤ j)) (f' := fun i j => decide (i ≤ j)) op_le op_le ev_int (ev_v 4 g5 rfl) (ev_lenRow (ev_v 5 g5 rfl) M.len)) ?_) fun v H6 l6 hv => q v H6 (lAll.trans (l5.trans l6)) hv
    have h1 : (0 : Int) ≤ a := by omega
    simp [isRemM, h1]
  · have hb : b = true := by cases b <;> simp_all
    subst hb
    have g5 := g4'.mono l5.tk
    refine s_retB (T := T) (b := isRemM r true a) ?_ fun v H6 l6 hv => q v H6 (lAll.trans (l5.trans l6)) hv
    refine EB.to (eb_and (k := decide ((0 : Int) ≤ a) && decide ((a : Int) < r.length)) (k' := ((r[a]?).map Ins.isSt).getD false) ?_ fun h => ?_) ?_
    · exact eb_chain (f := fun i j => decide (i ≤ j)) (f' := fun i j => decide (i < j)) op_le op_lt ev_int (ev_v 4 g5 rfl) (ev_lenRow (ev_v 5 g5 rfl) M.len)
    · have ha : a < r.length := by
        simp only [Bool.and_eq_true, decide_eq_true_eq] at h
        omega
      obtain ⟨i, hi⟩ : ∃ i, r[a]? = some i := ⟨_, List.getElem?_eq_getElem ha⟩
      refine EB.to (eb_eqS (ev_i0 (i := i) (ev_ix (ev_v 5 g5 rfl) (ev_v 4 g5 rfl) (atI_map hi)) ev_int) (ev_gs m4)) ?_
      rw [isSt_kind, hi]
      rfl
    · have h1 : (0 : Int) ≤ a := by omega
      simp [isRemM, h1]

/-! cuts_all -/
def coversM (rs : List Rem) (ps : List Tri) : Bool := ps.all fun y => rs.any fun x => cutsM x y
def spCA (T : List (Addr × Str)) : Sp := fun vs H Q _ => ∃ (a : Addr) (xs : List V) (rs : List Rem) (v2 : V) (ps : List Tri), vs = [.ref a, v2] ∧ H a = some (.lst xs) ∧ DtL H xs (rs.map encR) ∧ IsSeq H v2 (ps.map encT) ∧ rs.length ≤ 10000 ∧ ps.length ≤ 10000 ∧
  ∀ v H', Le T H H' → Dt H' v (.bool (coversM rs ps)) → Q v H'
abbrev nCA : List Str := ["remedies", "pairs", "remedy", "pair"]
theorem ok_cuts_all (M : Nm mg) (F : Fun K "cuts_all" "cuts_all" (topS 26) f fd) (C1 : Cal P w K mg base k "cuts" ["remedy", "pair"] (spR T 2 rCuts)) : FnOk P w K mg base CX0 (k + 1) f fd ["remedies", "pairs"] (spCA T) := by
  have S : FnScope nCA ["remedies", "pairs"] (defScope (topS 26)) := ⟨rfl, rfl, rfl, by decide +kernel, rfl, by decide +kernel, by decide +kernel⟩
  refine fun_okW F S (fun vs H Q E h => ?_) fun X cdv A outer s H vs Q E e c hr h => ?_
  · obtain ⟨a, xs, rs, v2, ps, rfl, _⟩ := h
    rfl
  subst e
  obtain ⟨a, xs, rs, v2, ps, rfl, ha, hx, hs, n1, n2, q⟩ := h
  have g : Sg H (L2.start nCA [.ref a, v2]) [.v (.ref a), .v v2, .x, .x] := .cons rfl (.cons rfl (.cons True.intro (.cons True.intro .nil)))
  refine s_retB (T := T) (b := coversM rs ps) ?_ q
  refine EB.to (eb_all (bs := ps.map fun y => rs.any fun x => cutsM x y) c ?_ M.all) (by rw [List.all_map]; rfl)
  refine EvL.to (ev_lc c (enc := encT) (L := ps) (ei_seq (ev_v 1 g rfl) hs) 3 g (fun y => some (.bool (rs.any fun x => cutsM x y))) (fun y H' σ2 Xb hy l' hb g2 => ?_) (by omega) (blkOk_by (N := nCA) (sc := defScope (topS 26)) (own := [("pair", 3)]) (by decide +kernel))) (by rw [filterMap_some, List.map_map]; rfl)
  have cb := c.blk hb
  obtain ⟨s0, H0, C, cl, fp, rfl⟩ := hb
  refine ⟨et_nil, fun d hd => ?_⟩
  cases hd
  refine EB.v (EB.to (eb_any (bs := rs.map fun x => cutsM x y) cb ?_ M.any) (by rw [List.any_map]; rfl))
  refine EvL.to (ev_lc cb (enc := encR) (L := rs) (ei_lst (ev_v 0 g2 rfl) (l'.lst ha) (hx.mono l'.tk)) 2 g2 (fun x => some (.bool (cutsM x y))) (fun x H2 σ3 Xb hx l2 hb g3 => ?_) (by omega) (blkOk_by (N := nCA) (own := [("remedy", 2)]) (by show blkC nCA (relS _ (defScope (topS 26))) _ _ = true; decide +kernel))) (by rw [filterMap_some, List.map_map]; rfl)
  obtain ⟨s1, H1, C, cl, fp, rfl⟩ := hb
  refine ⟨et_nil, fun d hd => ?_⟩
  cases hd
  exact ev_callR (ds := [encR x, encT y]) C1 hr (ea_cons (ev_v 2 g3 rfl) (ea_1 (ev_v 3 g3 rfl))) ⟨x, y, rfl, rfl⟩
end
end RF
set_option Elab.async false
set_option linter.all false
set_option maxRecDepth 100000
set_option maxHeartbeats 4000000
namespace RF
open PySem PySem.Spec L2 LamX
open PyProof.Rows hiding St

def remsR (b : Bool) (x : List Ins × Nat) : List Rem := ((List.range (x.1.length + 1)).filter (isRemM x.1 b)).map fun a => (b, x.2, a)
def remsM (p : Prog) (b : Bool) : List Rem := p.zipIdx.flatMap (remsR b)
theorem remsR_le (b : Bool) (x : List Ins × Nat) (h : x.1.length ≤ 16) : (remsR b x).length ≤ 17 := by
  unfold remsR
  rw [List.length_map]
  refine Nat.le_trans (List.length_filter_le _ _) ?_
  rw [List.length_range]
  omega
theorem remsM_le (p : Prog) (b : Bool) (hp : ProgOk p) : (remsM p b).length ≤ 102 := by
  refine Nat.le_trans (flat_le _ 17 _ fun x hx => remsR_le _ _ (hp.2 x.1 (mem_zipIdx_row hx).1).1) ?_
  rw [List.length_zipIdx]
  have := hp.1
  omega
section
variable {P : Program} {w : World} {K : PySem.W.Frag} {mg : Str → Option Value} {base : Heap} {T : List (Addr × Str)} {f : Addr} {fd : FuncData} {k : Nat}
def rRems : List PyData → PyData → Prop := fun ds d => ∃ (p : Prog) (b : Bool), ProgOk p ∧ ds = [encProg p, .str (wordOf b)] ∧ d = .tuple ((remsM p b).map encR)
abbrev nAR : List Str := ["program", "word", "found", "thread", "instructions", "some", "at", "remedy"]
theorem ok_all_remedies (M : Nm mg) (F : Fun K "all_remedies" "all_remedies" (topS 27) f fd) (C1 : Cal P w K mg base k "is_remedy" ["program", "value"] (spR T 2 rIsRem)) : FnOk P w K mg base CX0 (k + 1) f fd ["program", "word"] (spR T 2 rRems) := by
  have S : FnScope nAR ["program", "word"] (defScope (topS 27)) := ⟨rfl, rfl, rfl, by decide +kernel, rfl, by decide +kernel, by decide +kernel⟩
  refine fun_okW F S (fun _ _ _ _ h => spR_len h) fun X cdv A outer s H vs Q E e c hr h => ?_
  subst e
  obtain ⟨ds, d, _, hd, ⟨p, b, hp, rfl, rfl⟩, q⟩ := h
  have g : Sg H (L2.start nAR vs) [.d (encProg p), .d (.str (wordOf b)), .x, .x, .x, .x, .x, .x] := startN hd
  refine s_setN (T := T) c 2 g (ev_lst (ds := []) ea_nil) fun q0 xs σ1 H1 hq l1 hq1 hxs g1 => ?_
  have g1' : Sg H1 σ1 [.d (encProg p), .d (.str (wordOf b)), .v (.ref q0), .x, .x, .x, .x, .x] := g1
  refine s_forA (T := T) c (enc := encE encRow) (L := p.zipIdx) (ei_enumT (ev_v 0 g1' rfl) M.enumerate) g1' hq1 hxs (fun x => (remsR b x).map encR) (fun _ z => z.elim)
    (fun x v σ' H' ys ds hx L' g' hp' hy hb dv => ?_) fun σ' H' ys L' g' hp' hy => ?_
  · obtain ⟨r, t⟩ := x
    have hrow := mem_zipIdx_row hx
    have hlen : r.length ≤ 16 := (hp.2 _ hrow.1).1
    have hpt : p[t]? = some r := hrow.2
    refine g_tup2 c 3 4 g' ⟨_, rfl, dv⟩ fun σ3 g3 => ?_
    have g3' : Sg H' σ3 [.d (encProg p), .d (.str (wordOf b)), .v (.ref q0), .d (.int t), .d (encRow r), .x, .x, .x] := g3
    have hr1 : ((r.length : Int) + 1) = ((r.length + 1 : Nat) : Int) := by omega
    -- some = [(word, thread, at) for at in range(len(instructions) + 1)]
    refine s_setLc (T := T) c 5 g3' (enc := encN) (L := List.range (r.length + 1)) (ei_range1 (ea_1 (EvD.to (ev_add (ev_lenRow (ev_v 4 g3' rfl) M.len) ev_int) (by rw [hr1]))) (by omega) M.range) 6
      (fun a => some (encR (b, t, a))) (fun a H2 σ2 Xb ha l' hb g2 => ?_) (by rw [List.length_range]; omega) (blkOk_by (N := nAR) (sc := defScope (topS 27)) (by decide +kernel)) (fun r0 zs σ4 H4 hr0 l4 hr4 hzs g4 => ?_) (sw_true rfl rfl rfl (by decide +kernel))
    · obtain ⟨s0, H0, C, cl, fp, rfl⟩ := hb
      refine ⟨et_nil, fun d hd => ?_⟩
      cases hd
      exact ev_tup (ds := [.str (wordOf b), .int t, .int a]) (ea_cons (ev_v 1 g2 rfl) (ea_cons (ev_v 3 g2 rfl) (ea_1 (ev_v 6 g2 rfl))))
    rw [filterMap_some] at hzs
    have g4' : Sg H4 σ4 [.d (encProg p), .d (.str (wordOf b)), .v (.ref q0), .d (.int t), .d (encRow r), .v (.ref r0), .x, .x] := g4
    have hp4 := l4.lst hp'
    have hy4 := hy.mono l4.tk
    -- found.extend([..])
    refine s_extend (T := T) (ds := (remsR b (r, t)).map encR) (ev_v 2 g4' rfl) hp4 ?_ ?_ fun zs5 H5 l5 h5 => s_nil ?_
    · refine EvL.to (ev_lc c (enc := fun a : Nat => encR (b, t, a)) (L := List.range (r.length + 1)) (ei_lst (ev_v 5 g4' rfl) hr4 hzs) 7 g4' (fun a => if isRemM r b a = true then some (encR (b, t, a)) else none) (fun a H' σ2 Xb ha l' hb g2 => ?_) (by rw [List.length_range]; omega) (blkOk_by (N := nAR) (sc := defScope (topS 27)) (own := [("remedy", 7)]) (by decide +kernel))) ?_
      · obtain ⟨s0, H0, C, cl, fp, rfl⟩ := hb
        refine ⟨et_one (EB.t (EB.to (eb_val (ev_callR (ds := [encProg p, encR (b, t, a)]) C1 hr (ea_cons (ev_v 0 g2 rfl) (ea_1 (ev_v 7 g2 rfl))) ⟨p, b, t, a, r, hpt, rfl, rfl⟩)) ?_)), fun d hd => ?_⟩
        · cases isRemM r b a <;> rfl
        · split at hd
          · cases hd
            exact ev_v 7 g2 rfl
          · cases hd
      · rw [filterMap_if]
        unfold remsR
        rw [List.map_map]
        rfl
    · have h1 := hy4.len
      have h2 := remsM_le p b hp
      have h3 : (List.flatMap (fun x => List.map encR (remsR b x)) p.zipIdx).length = (remsM p b).length := by
        unfold remsM
        rw [← List.map_flatMap, List.length_map]
      rw [h3] at hb
      simp only [List.length_nil] at hb
      omega
    · have hp5 := l5.lst hp4
      refine ⟨LeX.updL (.of (l4.trans l5)) rfl hp5, (((((g4'.mono l5.tk).mono (tk_lst hp5)).forget 3).forget 4).forget 5), _, upd_same, ?_⟩
      exact ((hy4.mono l5.tk).append h5).mono (tk_lst hp5)
  · refine s_retD (T := T) (ev_tupL (ds := (remsM p b).map encR) (ev_v 2 g' rfl) hp' (by
      rw [List.nil_append] at hy
      unfold remsM
      rw [List.map_flatMap]
      exact hy) M.tuple) fun v H3 l3 hv => q v H3 ((L'.le l1 fun b hb => ?_).trans l3) hv
    rw [show b = q0 from hb]
    exact hq

/-! last_cut -/
def rLast : List PyData → PyData → Prop := fun ds d => ∃ (rs : List Rem) (y : Tri) (zs : List Rem) (z : Rem), rs.length ≤ 10000 ∧ rs.filter (fun x => cutsM x y) = zs ++ [z] ∧ ds = [.tuple (rs.map encR), encT y] ∧ d = encR z
abbrev nLC : List Str := ["remedies", "pair", "remedy"]
theorem ok_last_cut (M : Nm mg) (F : Fun K "last_cut" "last_cut" (topS 28) f fd) (C1 : Cal P w K mg base k "cuts" ["remedy", "pair"] (spR T 2 rCuts)) : FnOk P w K mg base CX0 (k + 1) f fd ["remedies", "pair"] (spR T 2 rLast) := by
  have S : FnScope nLC ["remedies", "pair"] (defScope (topS 28)) := ⟨rfl, rfl, rfl, by decide +kernel, rfl, by decide +kernel, by decide +kernel⟩
  refine fun_okW F S (fun _ _ _ _ h => spR_len h) fun X cdv A outer s H vs Q E e c hr h => ?_
  subst e
  obtain ⟨ds, d, _, hd, ⟨rs, y, zs, z, hl, hf, rfl, rfl⟩, q⟩ := h
  have g : Sg H (L2.start nLC vs) [.d (.tuple (rs.map encR)), .d (encT y), .x] := startN hd
  refine s_retD (T := T) (ev_ixN (ds := zs.map encR ++ [encR z]) ?_ (ev_neg ev_int) (atI_last _ _)) q
  refine EvL.to (ev_lc c (enc := encR) (L := rs) (ei_tup (ev_v 0 g rfl)) 2 g (fun x => if cutsM x y = true then some (encR x) else none) (fun x H' σ2 Xb hx l' hb g2 => ?_) (by omega) (blkOk_by (N := nLC) (sc := defScope (topS 28)) (own := [("remedy", 2)]) (by decide +kernel))) ?_
  · obtain ⟨s0, H0, C, cl, fp, rfl⟩ := hb
    refine ⟨et_one (EB.t (EB.to (eb_val (ev_callR (ds := [encR x, encT y]) C1 hr (ea_cons (ev_v 2 g2 rfl) (ea_1 (ev_v 1 g2 rfl))) ⟨x, y, rfl, rfl⟩)) ?_)), fun d hd => ?_⟩
    · cases cutsM x y <;> rfl
    · split at hd
      · cases hd
        exact ev_v 2 g2 rfl
      · cases hd
  · rw [filterMap_if (fun x => cutsM x y), hf, List.map_append]
    rfl

/-! point_of -/
def rPoint : List PyData → PyData → Prop := fun ds d => ∃ x : Rem, ds = [encR x] ∧ d = .tuple [.int x.2.1, .int x.2.2, .str (wordOf x.1)]
abbrev nPO : List Str := ["remedy", "word", "thread", "at"]
theorem ok_point_of (F : Fun K "point_of" "point_of" (topS 33) f fd) : FnOk P w K mg base CX0 (k + 1) f fd ["remedy"] (spR T 1 rPoint) := by
  have S : FnScope nPO ["remedy"] (defScope (topS 33)) := ⟨rfl, rfl, rfl, by decide +kernel, rfl, by decide +kernel, by decide +kernel⟩
  refine fun_okW F S (fun _ _ _ _ h => spR_len h) fun X cdv A outer s H vs Q E e c hr h => ?_
  subst e
  obtain ⟨ds, d, _, hd, ⟨x, rfl, rfl⟩, q⟩ := h
  have g : Sg H (L2.start nPO vs) [.d (encR x), .x, .x, .x] := startN hd
  refine s_asg (T := T) (ev_v 0 g rfl) fun v H2 l2 hv => g_tup3 c 1 2 3 (g.mono l2.tk) hv fun σ2 g2 => ?_
  exact s_retD (T := T) (ev_tup (ds := [.int x.2.1, .int x.2.2, .str (wordOf x.1)]) (ea_cons (ev_v 2 g2 rfl) (ea_cons (ev_v 3 g2 rfl) (ea_1 (ev_v 1 g2 rfl))))) fun v H3 l3 hv => q v H3 (l2.trans l3) hv
end
end RF
set_option Elab.async false
set_option linter.all false
set_option maxRecDepth 100000
set_option maxHeartbeats 4000000
namespace RF
open PySem PySem.Spec L2 LamX
open PyProof.Rows hiding St

/-- a promise over data that gives a new list -/
def spRL (T : List (Addr × Str)) (n : Nat) (R : List PyData → List PyData → Prop) : Sp := fun vs H Q _ => ∃ ds es, ds.length = n ∧ DtL H vs ds ∧ R ds es ∧ ∀ p xs H', H p = none → Le T H H' → H' p = some (.lst xs) → DtL H' xs es → Q (.ref p) H'
section
variable {T : List (Addr × Str)} {X : Cx} {e a b c : Expr} {es : List Expr} {σ : St} {H : Hp} {pos p p2 : Pos} {d : PyData} {n : Nat} {R : List PyData → List PyData → Prop} {ds es' : List PyData}
theorem spRL_len {vs : List V} {Q : VK} {E : XK} (h : spRL T n R vs H Q E) : vs.length = n := by
  obtain ⟨ds, d, e, hd, _⟩ := h
  rw [hd.len, e]
theorem spRL_v (hn : ds.length = n) (h : R ds es') : SpL T (spRL T n R) H (ds.map Sl.d) es' := fun H1 vs l hv Q q => ⟨ds, es', hn, hv.vals_d, h, q⟩
theorem ev_callRL {k : Nat} {x : Str} {ps : List Str} (C : Cal X.prog X.w X.K X.mg X.base k x ps (spRL T n R)) (hr : Room k X.A) (ha : EvA T X (e :: es) σ H (ds.map Sl.d)) (hR : R ds es') (hn : ds.length = n := by rfl) (hg : Gl X x := by rfl)
    (hdb : (x == ("__debug__" : Str)) = false := by decide) (he : starEach (e :: es) X.env = (false, eval e X.env) :: starEach es X.env := by rfl) (hpl : (backTo pos (starEach es X.env)).any (·.1) = false := by rfl) : EvL T X (.Call (.Name x p) (e :: es) [] pos) σ H es' :=
  ev_callN C hr ha (spRL_v hn hR) hg hdb he hpl
theorem s_retL {r : Addr} {xs : List V} {rest : List Stmt} {D : Ends} (h : Ev T X e σ H (.v (.ref r))) (hr : H r = some (.lst xs)) (k : ∀ H', Le T H H' → H' r = some (.lst xs) → D.rt (.ref r) H') : wSs X (.Return (some e) pos :: rest) D σ H :=
  s_ret h fun v H' l hv => by
    have e : some v = some (V.ref r) := hv
    cases e
    exact k H' l (l.lst hr)
/-- int(a truth value) -/
theorem ev_intB {k : Bool} (h : EvD T X a σ H (.bool k)) (hm : X.mg "int" = none) (hg : Gl X "int" := by rfl) (hst : starEach [a] X.env = (false, eval a X.env) :: starEach [] X.env := by rfl) (hpl : (backTo pos (starEach [] X.env)).any (·.1) = false := by rfl) :
    EvD T X (.Call (.Name "int" p) [a] [] pos) σ H (.int (if k then 1 else 0)) := fun H1 l Q q => by
  refine w_pe (pe_callTy call_int1 hg hm boot_int' (pa_cons pe_w pa_nil hst) (by decide) (by decide) hst hpl) (h H1 l _ fun v H2 l2 h2 => ?_)
  obtain ⟨_, e, h2⟩ := h2
  cases e
  obtain rfl := h2.inv_bl
  exact .inr ⟨k, rfl, q _ H2 l2 ⟨_, rfl, .int _⟩⟩
end

section
variable {P : Program} {w : World} {K : PySem.W.Frag} {mg : Str → Option Value} {base : Heap} {T : List (Addr × Str)} {f : Addr} {fd : FuncData} {k : Nat}
/-! _law_meet -/
def rLMeet : List PyData → PyData → Prop := fun ds d => ∃ i j : Ins, ds = [encI i, encI j] ∧ d = .bool (i.acc && (j.acc && meetI i j))
abbrev nLM : List Str := ["_law_one", "_law_other"]
theorem kind_acc (i : Ins) : decide (i.kind = kFe) = !i.acc := by
  cases i <;> simp [Ins.kind, Ins.acc, n_sf, n_lf, n_wf]
theorem ok_law_meet (F : Fun K "_law_meet" "_law_meet" (topS 44) f fd) : FnOk P w K mg base CX0 (k + 1) f fd nLM (spR T 2 rLMeet) := by
  have S : FnScope nLM nLM (defScope (topS 44)) := ⟨rfl, rfl, rfl, by decide +kernel, rfl, by decide +kernel, by decide +kernel⟩
  refine fun_okW F S (fun _ _ _ _ h => spR_len h) fun X cdv A outer s H vs Q E e c hr h => ?_
  subst e
  obtain ⟨ds, d, _, hd, ⟨i, j, rfl, rfl⟩, q⟩ := h
  have g : Sg H (L2.start nLM vs) [.d (encI i), .d (encI j)] := startN hd
  refine s_if0 (T := T) (k := !i.acc || (!j.acc || !decide (i.var? = j.var?))) ?_ (fun h H1 l1 => ?_) fun h H1 l1 => ?_
  · refine eb_or3 (k := !i.acc) (k' := !j.acc) (k2 := !decide (i.var? = j.var?)) ?_ (fun h => ?_) fun h h' => ?_
    · exact EB.to (eb_eqS (ev_i0 (ev_v 0 g rfl) ev_int) ev_str) (kind_acc i)
    · exact EB.to (eb_eqS (ev_i0 (ev_v 1 g rfl) ev_int) ev_str) (kind_acc j)
    · obtain ⟨x, hx⟩ := acc_var (i := i) (by simpa using h)
      obtain ⟨y, hy⟩ := acc_var (i := j) (by simpa using h')
      refine EB.to (eb_neS (ev_i1 hx (ev_v 0 g rfl) ev_int) (ev_i1 hy (ev_v 1 g rfl) ev_int)) ?_
      rw [hx, hy]
      simp
  · refine s_retD (T := T) (EvD.to (d := .bool false) ev_bl ?_) fun v H2 l2 hv => q v H2 (l1.trans l2) hv
    congr 1
    unfold meetI
    cases h1 : i.acc <;> cases h2 : j.acc <;> simp_all
  · have g1 := g.mono l1.tk
    refine s_retB (T := T) (b := i.acc && (j.acc && meetI i j)) ?_ fun v H2 l2 hv => q v H2 (l1.trans l2) hv
    refine EB.to (eb_or (k := !decide (i.kind = kLd)) (k' := !decide (j.kind = kLd)) ?_ fun _ => ?_) ?_
    · exact eb_neS (ev_i0 (ev_v 0 g1 rfl) ev_int) ev_str
    · exact eb_neS (ev_i0 (ev_v 1 g1 rfl) ev_int) ev_str
    · rw [isLd_kind, isLd_kind]
      simp only [Bool.or_eq_false_iff, Bool.not_eq_false', decide_eq_true_eq] at h
      obtain ⟨h1, h2, h3⟩ := h
      unfold meetI
      rw [h3]
      cases i <;> cases j <;> simp_all [Ins.acc, Ins.isLd, Ins.stores]

/-! _law_waits -/
abbrev nLW : List Str := ["_law_row", "_law_kind", "_law_early", "_law_late", "_law_one"]
theorem ok_law_waits (M : Nm mg) (F : Fun K "_law_waits" "_law_waits" (topS 45) f fd) : FnOk P w K mg base CX0 (k + 1) f fd ["_law_row", "_law_kind", "_law_early", "_law_late"] (spR T 4 rQueued) := by
  have S : FnScope nLW ["_law_row", "_law_kind", "_law_early", "_law_late"] (defScope (topS 45)) := ⟨rfl, rfl, rfl, by decide +kernel, rfl, by decide +kernel, by decide +kernel⟩
  refine fun_okW F S (fun _ _ _ _ h => spR_len h) fun X cdv A outer s H vs Q E e c hr h => ?_
  subst e
  obtain ⟨ds, d, _, hd, ⟨r, wd, e, l, x, hel, hl, hlen, hx, rfl, rfl⟩, q⟩ := h
  have g : Sg H (L2.start nLW vs) [.d (encRow r), .d (.str wd), .d (.int e), .d (.int l), .x] := startN hd
  have hsl : (seg r e l).length ≤ 100000 := by
    unfold seg
    rw [List.length_take, List.length_drop]
    omega
  let tt : Ins → Bool := fun z => z.isSt && (isLine wd || decide (z.var? = (r[e]?).bind Ins.var?))
  refine s_retD (T := T) (d := .int (queuedM r (isLine wd) e l)) (EvD.to (ev_lenN (ds := ((seg r e l).filter tt).map encI) ?_ M.len) ?_) q
  · refine EvL.to (ev_lc c (enc := encI) (L := seg r e l) (ei_tup (EvD.to (ev_slT (ev_v 0 g rfl) (.so (ev_v 2 g rfl)) (.so (ev_v 3 g rfl))) (by rw [cutD_seg hel hl]))) 4 g
      (fun z => if tt z = true then some (encI z) else none) (fun z H' σ2 Xb hz l' hb g2 => ?_) hsl (blkOk_by (N := nLW) (sc := defScope (topS 45)) (own := [("_law_one", 4)]) (by decide +kernel))) (filterMap_if tt encI _)
    obtain ⟨s0, H0, C, cl, fp, rfl⟩ := hb
    refine ⟨et_one (EB.t (EB.to (k := tt z) ?_ ?_)), fun d hd => ?_⟩
    · refine eb_and (k := z.isSt) ?_ fun h => eb_or (k := isLine wd) ?_ fun h' => ?_
      · exact EB.to (eb_eqS (ev_i0 (ev_v 4 g2 rfl) ev_int) ev_str) (isSt_kind z)
      · exact eb_eqS (ev_v 1 g2 rfl) ev_str
      · obtain ⟨y, rfl⟩ : ∃ y, z = .st y := by cases z <;> first | exact ⟨_, rfl⟩ | cases h
        refine EB.to (eb_eqS (ev_i1 (x := y) rfl (ev_v 4 g2 rfl) ev_int) (ev_i1 (x := x) rfl (ev_ix (ev_v 0 g2 rfl) (ev_v 2 g2 rfl) (atI_map hx)) ev_int)) ?_
        rw [hx]
        by_cases h : y = x <;> simp [Ins.var?, h]
    · cases tt z <;> rfl
    · split at hd
      · cases hd
        exact ev_v 4 g2 rfl
      · cases hd
  · rw [List.length_map]
    unfold queuedM
    congr 2
    by_cases h : isLine wd = true
    · rw [if_pos h]
      congr 1
      refine List.filter_congr fun z _ => ?_
      show (z.isSt && (isLine wd || _)) = z.isSt
      rw [h]
      simp
    · rw [if_neg h, List.filter_filter]
      congr 1
      refine List.filter_congr fun z _ => ?_
      show (z.isSt && (isLine wd || _)) = _
      have : isLine wd = false := by simpa using h
      rw [this, Bool.false_or, Bool.and_comm]
end
end RF
set_option Elab.async false
set_option linter.all false
set_option maxRecDepth 100000
set_option maxHeartbeats 4000000
namespace RF
open PySem PySem.Spec L2 LamX
open PyProof.Rows hiding St

theorem seg_snoc {r : List Ins} {e l : Nat} {j : Ins} (h : e ≤ l) (hj : r[l]? = some j) : seg r e (l + 1) = seg r e l ++ [j] := by
  unfold seg
  rw [show l + 1 - e = (l - e) + 1 by omega, List.take_add_one, List.getElem?_drop, show e + (l - e) = l by omega, hj]
  rfl
section
variable {P : Program} {w : World} {K : PySem.W.Frag} {mg : Str → Option Value} {base : Heap} {T : List (Addr × Str)} {f : Addr} {fd : FuncData} {k : Nat}
/-! _law_is_loose -/
def rLoose1 : List PyData → PyData → Prop := fun ds d => ∃ (r : List Ins) (wd : Str) (room : Int) (e l : Nat), e < l ∧ l < r.length ∧ RowOk r ∧ ds = [encRow r, encBuf wd room, .int e, .int l] ∧ d = .bool (tst r wd room e l)
abbrev nLI : List Str := ["_law_row", "_law_box_here", "_law_early", "_law_late", "_law_first", "_law_second", "_law_between", "_law_one"]
theorem ok_law_is_loose (M : Nm mg) (F : Fun K "_law_is_loose" "_law_is_loose" (topS 46) f fd) (C1 : Cal P w K mg base k "_law_waits" ["_law_row", "_law_kind", "_law_early", "_law_late"] (spR T 4 rQueued)) :
    FnOk P w K mg base CX0 (k + 1) f fd ["_law_row", "_law_box_here", "_law_early", "_law_late"] (spR T 4 rLoose1) := by
  have S : FnScope nLI ["_law_row", "_law_box_here", "_law_early", "_law_late"] (defScope (topS 46)) := ⟨rfl, rfl, rfl, by decide +kernel, rfl, by decide +kernel, by decide +kernel⟩
  refine fun_okW F S (fun _ _ _ _ h => spR_len h) fun X cdv A outer s H vs Q E e c hr h => ?_
  subst e
  obtain ⟨ds, d, _, hd, ⟨r, wd, room, e, l, hel, hl, hR, rfl, rfl⟩, q⟩ := h
  have g : Sg H (L2.start nLI vs) [.d (encRow r), .d (encBuf wd room), .d (.int e), .d (.int l), .x, .x, .x, .x] := startN hd
  obtain ⟨i, hi⟩ : ∃ i, r[e]? = some i := ⟨_, List.getElem?_eq_getElem (Nat.lt_trans hel hl)⟩
  obtain ⟨j, hj⟩ : ∃ j, r[l]? = some j := ⟨_, List.getElem?_eq_getElem hl⟩
  have ht : tst r wd room e l = (turnM r (decide (wd = kLanes)) e l i j && decide ((queuedM r (isLine wd) e l : Int) ≤ room)) := by unfold tst; rw [hi, hj]
  have e1 : ((e : Int) + 1) = ((e + 1 : Nat) : Int) := by omega
  refine s_par (T := T) c 4 5 g (ev_ix (ev_v 0 g rfl) (ev_v 2 g rfl) (atI_map hi)) (ev_ix (ev_v 0 g rfl) (ev_v 3 g rfl) (atI_map hj)) fun v v' σ1 H1 L1 _ _ g1 => ?_
  refine s_set (T := T) c 6 g1 (s := .d (encRow (seg r (e + 1) l))) (EvD.to (ev_slT (ev_v 0 g1 rfl) (.so (EvD.to (ev_add (ev_v 2 g1 rfl) ev_int) (by rw [e1]))) (.so (ev_v 3 g1 rfl))) (by rw [cutD_seg (by omega) (by omega)])) fun v2 σ2 H2 L2 _ g2 => ?_
  have g2' : Sg H2 σ2 [.d (encRow r), .d (encBuf wd room), .d (.int e), .d (.int l), .d (encI i), .d (encI j), .d (encRow (seg r (e + 1) l)), .x] := g2
  have hsl : (seg r (e + 1) l).length ≤ 100000 := Nat.le_trans (hR.seg _ _).1 (by decide)
  refine s_if0 (T := T) (k := !i.isSt || (!(j.isLd || j.isSt) || decide (i.var? = j.var?))) ?_ (fun h H3 L3 => ?_) fun h H3 L3 => ?_
  · refine eb_or3 (k := !i.isSt) (k' := !(j.isLd || j.isSt)) (k2 := decide (i.var? = j.var?)) ?_ (fun h => ?_) fun h h' => ?_
    · exact EB.to (eb_neS (ev_i0 (ev_v 4 g2' rfl) ev_int) ev_str) (by rw [isSt_kind])
    · refine EB.to (eb_notInS (ys := [kLd, kSt]) (ev_i0 (ev_v 5 g2' rfl) ev_int) (ev_tup (ds := [.str kLd, .str kSt]) (ea_cons ev_str (ea_1 ev_str)))) ?_
      cases j <;> simp [Ins.kind, Ins.isLd, Ins.isSt, n_sl, n_sw, n_sf, n_lw, n_lf, n_wf, n_sl.symm, n_sw.symm, n_sf.symm, n_lw.symm, n_lf.symm]
    · have hi2 : i.isSt = true := by cases hh : i.isSt <;> simp_all
      have hj2 : j.acc = true := by cases j <;> simp_all [Ins.isLd, Ins.isSt, Ins.acc]
      obtain ⟨x, hx⟩ : ∃ x, i.var? = some x := by cases i <;> first | exact ⟨_, rfl⟩ | cases hi2
      obtain ⟨y, hy⟩ := acc_var hj2
      refine EB.to (eb_eqS (ev_i1 hx (ev_v 4 g2' rfl) ev_int) (ev_i1 hy (ev_v 5 g2' rfl) ev_int)) ?_
      rw [hx, hy]
      simp
  · refine s_retD (T := T) (EvD.to (d := .bool false) ev_bl ?_) fun v H4 L4 hv => q v H4 (L1.trans (L2.trans (L3.trans L4))) hv
    congr 1
    rw [ht]
    symm
    rw [Bool.and_eq_false_iff]
    left
    unfold turnM
    rw [seg_snoc (by omega) hj, List.any_append]
    cases hh : i.isSt
    · simp
    · cases j <;> simp_all [Ins.isLd, Ins.isSt, Ins.acc, Ins.empt]
  · have g3 := g2'.mono L3.tk
    simp only [Bool.or_eq_false_iff, Bool.not_eq_false', decide_eq_false_iff_not] at h
    obtain ⟨hi2, hj2, hv⟩ := h
    have hja : j.acc = true ∧ j.empt = false := by cases j <;> simp_all [Ins.isLd, Ins.isSt, Ins.acc, Ins.empt]
    obtain ⟨y, hy⟩ := acc_var hja.1
    obtain ⟨x, hx⟩ : ∃ x, i = .st x := by cases i <;> first | exact ⟨_, rfl⟩ | cases hi2
    refine s_if0 (T := T) (k := (seg r (e + 1) l).any Ins.empt || decide (room < (queuedM r (isLine wd) e l : Int))) ?_ (fun h' H4 L4 => ?_) fun h' H4 L4 => ?_
    · refine eb_or ?_ fun _ => ?_
      · refine EB.to (eb_any (bs := (seg r (e + 1) l).map Ins.empt) c ?_ M.any) List.any_map
        refine EvL.to (ev_lc c (enc := encI) (L := seg r (e + 1) l) (ei_tup (ev_v 6 g3 rfl)) 7 g3 (fun z => some (.bool z.empt)) (fun z H' σ2 Xb hz l' hb g4 => ?_) hsl (blkOk_by (N := nLI) (sc := defScope (topS 46)) (own := [("_law_one", 7)]) (by decide +kernel))) (by rw [filterMap_some, List.map_map]; rfl)
        obtain ⟨s0, H0, C, cl, fp, rfl⟩ := hb
        refine ⟨et_nil, fun d hd => ?_⟩
        cases hd
        refine EB.v (EB.to (eb_inS (ys := [kFe, kSw]) (ev_i0 (ev_v 7 g4 rfl) ev_int) (ev_tup (ds := [.str kFe, .str kSw]) (ea_cons ev_str (ea_1 ev_str)))) ?_)
        cases z <;> simp [Ins.kind, Ins.empt, n_sl, n_sw, n_sf, n_lw, n_lf, n_wf, n_sl.symm, n_sw.symm, n_sf.symm, n_lw.symm, n_lf.symm, n_wf.symm]
      · refine eb_gt (j := room) (i := queuedM r (isLine wd) e l) ?_ (ev_ix (d := .int room) (ev_v 1 g3 rfl) ev_int rfl)
        refine ev_callR (ds := [encRow r, .str wd, .int e, .int l]) C1 hr ?_ ⟨r, wd, e, l, x, by omega, by omega, hR.1, by rw [hi, hx], rfl, rfl⟩
        exact ea_cons (ev_v 0 g3 rfl) (ea_cons (ev_ix (d := .str wd) (ev_v 1 g3 rfl) ev_int rfl) (ea_cons (ev_v 2 g3 rfl) (ea_1 (ev_v 3 g3 rfl))))
    · refine s_retD (T := T) (EvD.to (d := .bool false) ev_bl ?_) fun v H5 L5 hv => q v H5 (L1.trans (L2.trans (L3.trans (L4.trans L5)))) hv
      congr 1
      rw [ht]
      symm
      rw [Bool.or_eq_true] at h'
      rw [Bool.and_eq_false_iff]
      rcases h' with h' | h'
      · left
        unfold turnM
        rw [seg_snoc (by omega) hj, List.any_append, h']
        simp
      · right
        simp only [decide_eq_true_eq] at h'
        simp only [decide_eq_false_iff_not]
        omega
    · have g4 := g3.mono L4.tk
      refine s_retB (T := T) (b := tst r wd room e l) ?_ fun v H5 L5 hv => q v H5 (L1.trans (L2.trans (L3.trans (L4.trans L5)))) hv
      refine EB.to (eb_or (k := decide (wd = kLanes)) (k' := j.isLd && !(seg r (e + 1) l).any fun z => z.isSt && decide (z.var? = j.var?)) ?_ fun _ => ?_) ?_
      · exact eb_eqS (ev_ix (d := .str wd) (ev_v 1 g4 rfl) ev_int rfl) ev_str
      · refine eb_and ?_ fun _ => ?_
        · exact EB.to (eb_eqS (ev_i0 (ev_v 5 g4 rfl) ev_int) ev_str) (isLd_kind j)
        · refine EB.to (eb_notInT (room65 hr) (ev_tup (ds := [.str kSt, .str y]) (ea_cons ev_str (ea_1 (ev_i1 hy (ev_v 5 g4 rfl) ev_int)))) (ev_v 6 g4 rfl) (encI_shaped (i := .st y) fun x hx => ?_) (shaped_row (hR.seg _ _))) ?_
          · cases hx
            exact hR.2 j (List.mem_of_getElem? hj) _ hy
          · have e2 : ((seg r (e + 1) l).map encI).any (fun z => PyData.eqv z (.tuple [.str kSt, .str y])) = (seg r (e + 1) l).any fun z => z.isSt && decide (z.var? = some y) := by
              rw [List.any_map]
              refine List.any_congr rfl fun z => ?_
              show PyData.eqv (encI z) (encI (.st y)) = _
              rw [eqv_encI]
              cases z <;> simp [Ins.isSt, Ins.var?]
            rw [e2, hy]
      · rw [ht]
        simp only [Bool.or_eq_false_iff, decide_eq_false_iff_not] at h'
        have hq : (queuedM r (isLine wd) e l : Int) ≤ room := by omega
        unfold turnM
        rw [seg_snoc (by omega) hj, List.any_append, h'.1, hi2, hja.1]
        simp [hja.2, hq, hv]

/-! _law_loose -/
def rLooseL : List PyData → List PyData → Prop := fun ds es => ∃ (p : Prog) (wd : Str) (room : Int), ProgOk p ∧ ds = [encProg p, encBuf wd room] ∧ es = (looseM p wd room).map encT
abbrev nLL : List Str := ["_law_plan", "_law_box_here", "_law_found", "_law_thread", "_law_row", "_law_early", "_law_late"]
theorem ok_law_loose (M : Nm mg) (F : Fun K "_law_loose" "_law_loose" (topS 47) f fd) (C1 : Cal P w K mg base k "_law_is_loose" ["_law_row", "_law_box_here", "_law_early", "_law_late"] (spR T 4 rLoose1)) :
    FnOk P w K mg base CX0 (k + 1) f fd ["_law_plan", "_law_box_here"] (spRL T 2 rLooseL) := by
  have S : FnScope nLL ["_law_plan", "_law_box_here"] (defScope (topS 47)) := ⟨rfl, rfl, rfl, by decide +kernel, rfl, by decide +kernel, by decide +kernel⟩
  refine fun_okW F S (fun _ _ _ _ h => spRL_len h) fun X cdv A outer s H vs Q E e c hr h => ?_
  subst e
  obtain ⟨ds, es, _, hd, ⟨p, wd, room, hp, rfl, rfl⟩, q⟩ := h
  have g : Sg H (L2.start nLL vs) [.d (encProg p), .d (encBuf wd room), .x, .x, .x, .x, .x] := startN hd
  refine s_setN (T := T) c 2 g (ev_lst (ds := []) ea_nil) fun q0 xs σ2 H2 hq l2 hq2 hxs g2 => ?_
  refine s_forA (T := T) c (enc := encE encRow) (L := p.zipIdx) (ei_enumT (ev_v 0 g2 rfl) M.enumerate) (δ := [.d (encProg p), .d (encBuf wd room), .v (.ref q0), .x, .x, .x, .x]) g2 hq2 hxs (fun x => (looseR wd room x).map encT) (fun _ z => z.elim)
    (fun x v σ' H' ys ds hx L' g' hp' hy hb dv => ?_) fun σ' H' ys L' g' hp' hy => ?_
  · obtain ⟨r, t⟩ := x
    have hrow := mem_zipIdx_row hx
    have hR := hp.row hrow.1
    have hlen : r.length ≤ 16 := (hp.2 _ hrow.1).1
    have eR : (looseR wd room (r, t)).map encT = (List.range r.length).flatMap fun e => (looseE r wd room t e).map encT := by
      unfold looseR
      rw [List.map_flatMap]
    have hB : ds.length + ((looseR wd room (r, t)).map encT).length ≤ 1536 := by
      have h1 := looseM_le p wd room hp
      unfold looseM at h1
      rw [← List.length_map (f := encT), List.map_flatMap] at h1
      simp only [List.length_nil] at hb
      omega
    refine g_tup2 c 3 4 g' ⟨_, rfl, dv⟩ fun σ3 g3 => ?_
    have g3' : Sg H' σ3 [.d (encProg p), .d (encBuf wd room), .v (.ref q0), .d (.int t), .d (encRow r), .x, .x] := g3
    refine s_forA (T := T) c (enc := encN) (L := List.range r.length) (ei_range1 (ea_1 (ev_lenRow (ev_v 4 g3' rfl) M.len)) (by omega) M.range) g3' hp' hy (fun e => (looseE r wd room t e).map encT) (fun _ z => z.elim)
      (fun e v' σ4 H4 ys4 ds4 he L4 g4 hp4 hy4 hb4 dv4 => ?_) fun σ4 H4 ys4 L4 g4 hp4 hy4 => ?_
    · have he' : e < r.length := List.mem_range.mp he
      rw [← eR] at hb4
      have eE : (looseE r wd room t e).map encT = (List.range' (e + 1) (r.length - (e + 1))).flatMap fun l => (if tst r wd room e l = true then [(t, e, l)] else []).map encT := by
        unfold looseE
        rw [List.map_flatMap]
      refine g_name (s := .d (.int (e : Int))) c 5 g4 ⟨_, rfl, dv4⟩ fun σ5 g5 => ?_
      have g5' : Sg H4 σ5 [.d (encProg p), .d (encBuf wd room), .v (.ref q0), .d (.int t), .d (encRow r), .d (.int e), .x] := g5
      refine s_forA (T := T) c (enc := encN) (L := List.range' (e + 1) (r.length - (e + 1))) (ei_range2 (ea_cons (EvD.to (ev_add (ev_v 5 g5' rfl) ev_int) (by rw [show ((e : Int) + 1) = ((e + 1 : Nat) : Int) by omega])) (ea_1 (ev_lenRow (ev_v 4 g5' rfl) M.len))) (by omega) (by omega) M.range) g5' hp4 hy4
        (fun l => (if tst r wd room e l = true then [(t, e, l)] else []).map encT) (fun _ z => z.elim) (fun l v6 σ6 H6 ys6 ds6 hl L6 g6 hp6 hy6 hb6 dv6 => ?_) fun σ6 H6 ys6 L6 g6 hp6 hy6 => ?_
      · have hl' : e < l ∧ l < r.length := by
          rw [List.mem_range'_1] at hl
          omega
        rw [← eE] at hb6
        refine g_name (s := .d (.int (l : Int))) c 6 g6 ⟨_, rfl, dv6⟩ fun σ7 g7 => ?_
        have g7' : Sg H6 σ7 [.d (encProg p), .d (encBuf wd room), .v (.ref q0), .d (.int t), .d (encRow r), .d (.int e), .d (.int l)] := g7
        refine s_if0 (T := T) (k := tst r wd room e l) ?_ (fun h H8 L8 => ?_) fun h H8 L8 => ?_
        · refine eb_val (ev_callR (ds := [encRow r, encBuf wd room, .int e, .int l]) C1 hr ?_ ⟨r, wd, room, e, l, hl'.1, hl'.2, hR, rfl, rfl⟩)
          exact ea_cons (ev_v 4 g7' rfl) (ea_cons (ev_v 1 g7' rfl) (ea_cons (ev_v 5 g7' rfl) (ea_1 (ev_v 6 g7' rfl))))
        · have g8 := g7'.mono L8.tk
          refine s_append (T := T) (ev_v 2 g8 rfl) (L8.lst hp6) (by have := hy6.len; omega) (ev_tup (ds := [.int t, .int e, .int l]) (ea_cons (ev_v 3 g8 rfl) (ea_cons (ev_v 5 g8 rfl) (ea_1 (ev_v 6 g8 rfl))))) fun v9 H9 L9 hv9 => s_nil ?_
          have hp9 := (L8.trans L9).lst hp6
          obtain ⟨_, e9, hv9⟩ := hv9
          cases e9
          refine s_nil ⟨LeX.updL (.of (L8.trans L9)) rfl hp9, (g8.mono L9.tk).mono (tk_lst hp9) |>.forget 6, _, upd_same, ?_⟩
          rw [h]
          exact (((hy6.mono (L8.trans L9).tk).append (.cons hv9 .nil))).mono (tk_lst hp9)
        · refine s_nil ⟨.of L8, (g7'.mono L8.tk).forget 6, ys6, L8.lst hp6, ?_⟩
          rw [h]
          show DtL H8 ys6 (ds6 ++ [])
          rw [List.append_nil]
          exact hy6.mono L8.tk
      · refine s_nil ⟨L6, g6.forget 5, ys6, hp6, ?_⟩
        rw [eE]
        exact hy6
    · refine s_nil ⟨L4, (g4.forget 3).forget 4, ys4, hp4, ?_⟩
      rw [eR]
      exact hy4
  · refine s_retL (T := T) (ev_v 2 g' rfl) hp' fun H3 l3 hr3 => q q0 ys H3 hq ((L'.le l2 fun b hb => ?_).trans l3) hr3 ?_
    · rw [show b = q0 from hb]
      exact hq
    · rw [List.nil_append] at hy
      unfold looseM
      rw [List.map_flatMap]
      exact hy.mono l3.tk

/-! _law_cut -/
abbrev nLU : List Str := ["_law_remedy", "_law_pair", "_law_word", "_law_thread", "_law_at", "_law_own", "_law_early", "_law_late"]
theorem ok_law_cut (M : Nm mg) (F : Fun K "_law_cut" "_law_cut" (topS 51) f fd) : FnOk P w K mg base CX0 (k + 1) f fd ["_law_remedy", "_law_pair"] (spR T 2 rCuts) := by
  have S : FnScope nLU ["_law_remedy", "_law_pair"] (defScope (topS 51)) := ⟨rfl, rfl, rfl, by decide +kernel, rfl, by decide +kernel, by decide +kernel⟩
  refine fun_okW F S (fun _ _ _ _ h => spR_len h) fun X cdv A outer s H vs Q E e c hr h => ?_
  subst e
  obtain ⟨ds, d, _, hd, ⟨x, y, rfl, rfl⟩, q⟩ := h
  obtain ⟨b, t, a⟩ := x
  obtain ⟨o, e, l⟩ := y
  have g : Sg H (L2.start nLU vs) [.d (encR (b, t, a)), .d (encT (o, e, l)), .x, .x, .x, .x, .x, .x] := startN hd
  refine s_asg (T := T) (ev_v 0 g rfl) fun v H1 l1 hv => g_tup3 c 2 3 4 (g.mono l1.tk) hv fun σ1 g1 => ?_
  refine s_asg (T := T) (ev_v 1 g1 rfl) fun v H2 l2 hv => g_tup3 c 5 6 7 (g1.mono l2.tk) hv fun σ2 g2 => ?_
  have g2' : Sg H2 σ2 [.d (encR (b, t, a)), .d (encT (o, e, l)), .d (.str (wordOf b)), .d (.int t), .d (.int a), .d (.int o), .d (.int e), .d (.int l)] := g2
  refine s_retB (T := T) (b := cutsM (b, t, a) (o, e, l)) ?_ fun v H3 l3 hv => q v H3 (l1.trans (l2.trans l3)) hv
  refine EB.to (eb_and (k := decide ((t : Int) = o)) (k' := decide (((e : Int) + (if (decide (wordOf b = kFe)) = true then 1 else 0)) ≤ a) && decide ((a : Int) ≤ l)) ?_ fun _ => ?_) ?_
  · exact eb_eqI (ev_v 3 g2' rfl) (ev_v 5 g2' rfl)
  · exact eb_chain (f := fun i j => decide (i ≤ j)) (f' := fun i j => decide (i ≤ j)) op_le op_le (ev_add (ev_v 6 g2' rfl) (ev_intB (eb_eqS (ev_v 2 g2' rfl) ev_str).v M.int)) (ev_v 4 g2' rfl) (ev_v 7 g2' rfl)
  · unfold cutsM
    cases b
    · have e1 : decide (wordOf false = kFe) = true := by simp [wordOf]
      rw [e1, Bool.eq_iff_iff]
      simp
      omega
    · have e1 : decide (wordOf true = kFe) = false := by simp [wordOf, n_wf]
      rw [e1, Bool.eq_iff_iff]
      simp
      omega

/-! _law_covers: the remedies a tuple, the pairs a list or a tuple -/
def spLC (T : List (Addr × Str)) : Sp := fun vs H Q _ => ∃ (v1 : V) (rs : List Rem) (v2 : V) (ps : List Tri), vs = [v1, v2] ∧ IsSeq H v1 (rs.map encR) ∧ IsSeq H v2 (ps.map encT) ∧ rs.length ≤ 10000 ∧ ps.length ≤ 10000 ∧
  ∀ v H', Le T H H' → Dt H' v (.bool (coversM rs ps)) → Q v H'
abbrev nLCv : List Str := ["_law_remedies", "_law_pairs", "_law_remedy", "_law_pair"]
theorem ok_law_covers (M : Nm mg) (F : Fun K "_law_covers" "_law_covers" (topS 52) f fd) (C1 : Cal P w K mg base k "_law_cut" ["_law_remedy", "_law_pair"] (spR T 2 rCuts)) : FnOk P w K mg base CX0 (k + 1) f fd ["_law_remedies", "_law_pairs"] (spLC T) := by
  have S : FnScope nLCv ["_law_remedies", "_law_pairs"] (defScope (topS 52)) := ⟨rfl, rfl, rfl, by decide +kernel, rfl, by decide +kernel, by decide +kernel⟩
  refine fun_okW F S (fun vs H Q E h => ?_) fun X cdv A outer s H vs Q E e c hr h => ?_
  · obtain ⟨v1, rs, v2, ps, rfl, _⟩ := h
    rfl
  subst e
  obtain ⟨v1, rs, v2, ps, rfl, h1, h2, n1, n2, q⟩ := h
  have g : Sg H (L2.start nLCv [v1, v2]) [.v v1, .v v2, .x, .x] := .cons rfl (.cons rfl (.cons True.intro (.cons True.intro .nil)))
  refine s_retB (T := T) (b := coversM rs ps) ?_ q
  refine EB.to (eb_all (bs := ps.map fun y => rs.any fun x => cutsM x y) c ?_ M.all) (by rw [List.all_map]; rfl)
  refine EvL.to (ev_lc c (enc := encT) (L := ps) (ei_seq (ev_v 1 g rfl) h2) 3 g (fun y => some (.bool (rs.any fun x => cutsM x y))) (fun y H' σ2 Xb hy l' hb g2 => ?_) (by omega) (blkOk_by (N := nLCv) (sc := defScope (topS 52)) (own := [("_law_pair", 3)]) (by decide +kernel))) (by rw [filterMap_some, List.map_map]; rfl)
  have cb := c.blk hb
  obtain ⟨s0, H0, C, cl, fp, rfl⟩ := hb
  refine ⟨et_nil, fun d hd => ?_⟩
  cases hd
  refine EB.v (EB.to (eb_any (bs := rs.map fun x => cutsM x y) cb ?_ M.any) (by rw [List.any_map]; rfl))
  refine EvL.to (ev_lc cb (enc := encR) (L := rs) (ei_seq (ev_v 0 g2 rfl) (h1.le l')) 2 g2 (fun x => some (.bool (cutsM x y))) (fun x H2 σ3 Xb hx l2 hb g3 => ?_) (by omega) (blkOk_by (N := nLCv) (own := [("_law_remedy", 2)]) (by show blkC nLCv (relS _ (defScope (topS 52))) _ _ = true; decide +kernel))) (by rw [filterMap_some, List.map_map]; rfl)
  obtain ⟨s1, H1, C, cl, fp, rfl⟩ := hb
  refine ⟨et_nil, fun d hd => ?_⟩
  cases hd
  exact ev_callR (ds := [encR x, encT y]) C1 hr (ea_cons (ev_v 2 g3 rfl) (ea_1 (ev_v 3 g3 rfl))) ⟨x, y, rfl, rfl⟩
end
end RF
set_option Elab.async false
set_option linter.all false
set_option maxRecDepth 100000
set_option maxHeartbeats 4000000
/-! sorted(..) of what is collected: lists, tuples, dicts, values of dicts -/
namespace RF
open PySem PySem.Spec L2 LamX
open PyProof.Rows hiding St
open PySem.W (EachIs AllAlike Sortable dataLe alike alikeAll)

mutual
theorem Dt.rd {P : Program} {w : World} {H : Hp} {h : Heap} (ok : HOk P w H h) : ∀ (d : PyData) (v : V) (u : Value), Dt H v d → RelV v u → Reads h u d []
  | .none, _, _, x, r => by
    cases x
    cases r
    exact Reads.none
  | .bool b, _, _, x, r => by
    cases x
    cases r
    exact Reads.bool b
  | .int i, _, _, x, r => by
    cases x
    obtain ⟨t, rfl⟩ := r
    exact Reads.int i t
  | .str y, _, _, x, r => by
    cases x
    obtain ⟨t, rfl⟩ := r
    exact Reads.str y t
  | .tuple ds, _, _, x, r => by
    cases x with
    | tup ha hd =>
      cases r
      obtain ⟨_, its, rv, o, ho, hc, n, hdat⟩ := ok _ _ ha
      exact Reads.tuple ho hc hdat (by simpa using DtL.rd ok ds _ its hd rv)
  | .list _, _, _, x, _ => by cases x
  | .dict _, _, _, x, _ => by cases x
theorem DtL.rd {P : Program} {w : World} {H : Hp} {h : Heap} (ok : HOk P w H h) : ∀ (ds : List PyData) (vs : List V) (us : List Value), DtL H vs ds → Vals vs us → ReadsAll h us ds []
  | [], _, _, x, r => by
    cases x
    cases r
    exact ReadsAll.nil
  | d :: ds, _, _, x, r => by
    cases x with
    | cons x1 x2 =>
      cases r with
      | cons r1 r2 => exact ReadsAll.cons (as := []) (bs := []) (Dt.rd ok d _ _ x1 r1) (DtL.rd ok ds _ _ x2 r2)
end
/-- a value stands for b -/
def Std {β : Type} (H : Hp) (enc : β → PyData) (u : Value) (b : β) : Prop := ∃ y, RelV y u ∧ Dt H y (enc b)
section
variable {P : Program} {w : World} {H : Hp} {h : Heap} {β : Type} {enc : β → PyData}
theorem std_each : ∀ {bs : List β} {xs : List V} {us : List Value}, DtL H xs (bs.map enc) → Vals xs us → EachIs (Std H enc) us bs
  | [], _, _, x, r => by
    cases x
    cases r
    exact .nil
  | b :: bs, _, _, x, r => by
    cases x with
    | cons x1 x2 =>
      cases r with
      | cons r1 r2 => exact .cons ⟨_, r1, x1⟩ (std_each x2 r2)
theorem each_std : ∀ {bs : List β} {us : List Value}, EachIs (Std H enc) us bs → ∃ xs, Vals xs us ∧ DtL H xs (bs.map enc)
  | _, _, .nil => ⟨[], .nil, .nil⟩
  | _, _, .cons ⟨y, r, d⟩ t => by
    obtain ⟨xs, r2, d2⟩ := each_std t
    exact ⟨y :: xs, .cons r r2, .cons d d2⟩
end
/-- what is collected from the object at r -/
def Colls (X : Cx) (s : Shared) (r : Addr) (us : List Value) : Prop := ∀ (A : Around) (E : Value → Shared → Prop) (R : List Value → Shared → Prop), A.handled = none → (∀ (h' : Heap) (tk : Nat), (∀ b o, s.heap.get? b = some o → h'.get? b = some o) → R us { s with heap := h', toks := tk }) →
  wpAny (model X.prog X.w) A (collect (.ref r)) R E s
section
variable {X : Cx} {pins : List (Addr × Obj)} {σ : St} {H : Hp} {s : Shared} {r : Addr} {β : Type} {enc : β → PyData} {bs : List β}
theorem vals_len {xs : List V} {us : List Value} (h : Vals xs us) : us.length = xs.length := h.length.symm
theorem sort_new (I : Inv X pins σ H s) {us : List Value} {xs : List V} (hh : X.A.handled = none) (col : Colls X s r us) (rv : Vals xs us) (hd : DtL H xs (bs.map enc)) (hal : AllAlike (bs.map enc)) (hk : Sortable (bs.map enc)) (hL : bs.length ≤ sizeLine)
    (hu : ∀ b, b ∈ bs → X.A.units + 2 + (enc b).depth < cLine) {Q : VK} (q : ∀ p ys, H p = none → DtL (upd H p (.lst ys)) ys ((bs.mergeSort (dataLe false enc)).map enc) → Q (.ref p) (upd H p (.lst ys))) :
    wpAny (model X.prog X.w) X.A (call (.builtin "sorted") [.ref r]) (EP X pins σ Q) X.xe s := by
  have el := std_each hd rv
  refine Calls.call_function_entry kind_sorted plain_sorted entry_sorted (args_sorted1 _) ?_
  unfold Builtin.«sorted»
  refine wpAny_bind (m := checkCount "sorted" 1 1 _) (wpAny_pure ?_)
  refine wpAny_bind (col X.A.in1 X.xe _ hh fun h' tk hk' => ?_)
  refine wpAny_bind (wpAny_newList ?_ (by rw [el.length]; exact hL))
  have I1 : Inv X pins σ H { s with heap := h', toks := tk } := I.kept (t' := tk) hk'
  have hfr : H h'.objs.size = none := I1.hok.fresh (Nat.le_refl _)
  have I2 : Inv X pins σ H { s with heap := h'.push { cls := .type "list", data := .seq us.toArray }, toks := tk } := I1.kept (t' := tk) fun b o e => Heap.get?_push_of_some _ e
  have hob : (h'.push { cls := .type "list", data := .seq us.toArray }).get? h'.objs.size = some (seqObj "list" us.toArray 0) := Heap.get?_push_size _ rfl
  have er : EachIs (fun v b => ∃ as, Reads (h'.push { cls := .type "list", data := .seq us.toArray }) v (enc b) as ∧ h'.objs.size ∉ as) us bs := el.mono fun v b ⟨y, r1, d1⟩ => ⟨[], Dt.rd I2.hok _ _ _ d1 r1, by simp⟩
  refine wpAny_bind (wpAny_holding ?_)
  refine wpAny_mono (PySem.W.list_sort_data (A := X.A.in1) (E := X.xe) (s := { s with heap := h'.push { cls := .type "list", data := .seq us.toArray }, toks := tk }) (Q := fun _ s' => EP X pins σ Q (.ref h'.objs.size) s') hob el er hal hk hL (fun b hb => hu b hb) fun out hl eo => ?_) (fun _ s' x => wpAny_pure ⟨_, rfl, x⟩) fun _ _ e => e
  obtain ⟨ys, rv', hd'⟩ := each_std eo
  obtain ⟨ep, he⟩ := sortedHeap_at (vs := us) (out := out.toArray) hob
  have n1 : ys.length ≤ sizeLine := by rw [rv'.length, hl]; exact hL
  refine ⟨.ref h'.objs.size, upd H h'.objs.size (.lst ys), I1.laid (a := h'.objs.size) (t' := tk) (fun b o e => ?_) (Nat.le_refl _) ⟨n1, out, ep, rv', he⟩, rfl, q _ _ hfr ?_⟩
  · have hb : b < h'.objs.size := Heap.lt_size e
    exact (sortedHeap_old (Nat.ne_of_lt hb) (Heap.lt_size (Heap.get?_push_of_some _ e))).trans (Heap.get?_push_of_some _ e)
  · exact hd'.mono fun b zs e => by rw [upd_ne (ne_of_none e hfr)]; exact e
/-- .. told of the abstract heap alone -/
def ColD (X : Cx) (H : Hp) (r : Addr) (ds : List PyData) : Prop := ∀ (pins : List (Addr × Obj)) (σ : St) (s : Shared), Inv X pins σ H s → ∃ us xs, Vals xs us ∧ DtL H xs ds ∧ Colls X s r us
theorem col_tup {xs : List V} {ds : List PyData} (hr : H r = some (.tup xs)) (hd : DtL H xs ds) : ColD X H r ds := fun pins σ s I => by
  obtain ⟨hz, its, rv, o, ho, hc, n, hdat⟩ := I.hok r _ hr
  refine ⟨its, xs, rv, hd, fun A E R hh hR => ?_⟩
  refine wpAny_collect_seq r (.inr rfl) ho hc hdat (fun h' hk => ?_) (by rw [List.size_toArray, ← rv.length]; exact hz)
  rw [List.toList_toArray]
  exact hR h' s.toks hk
theorem col_lst {xs : List V} {ds : List PyData} (hr : H r = some (.lst xs)) (hd : DtL H xs ds) : ColD X H r ds := fun pins σ s I => by
  obtain ⟨hz, its, n, rv, ho⟩ := I.hok r _ hr
  refine ⟨its, xs, rv, hd, fun A E R hh hR => ?_⟩
  refine wpAny_collect_seq r (.inl rfl) ho rfl rfl (fun h' hk => ?_) (by rw [List.size_toArray, ← rv.length]; exact hz)
  rw [List.toList_toArray]
  exact hR h' s.toks hk
/-! keys of ints and texts as data -/
def kD : Key → PyData
  | .inl i => .int i
  | .inr x => .str x
abbrev keyD (k : List Key) : PyData := .tuple (k.map kD)
theorem dtl_key (H : Hp) : ∀ k : List Key, DtL H (k.map kV) (k.map kD)
  | [] => .nil
  | .inl i :: k => .cons (.int i) (dtl_key H k)
  | .inr x :: k => .cons (.str x) (dtl_key H k)
theorem kV_of {v : V} {k : Key} (h : Dt H v (kD k)) : v = kV k := by
  cases k with
  | inl i => exact h.inv_int
  | inr x => exact h.inv_str
theorem kVs_of : ∀ {k : List Key} {vs : List V}, DtL H vs (k.map kD) → vs = k.map kV
  | [], _, h => by cases h; rfl
  | k :: ks, _, h => by
    cases h with
    | cons h1 h2 => rw [kV_of h1, kVs_of h2]; rfl
theorem key_at {v : V} {k : List Key} (h : Dt H v (keyD k)) : ∃ b, v = .ref b ∧ H b = some (.tup (k.map kV)) := by
  obtain ⟨b, xs, rfl, hb, hx⟩ := h.inv_tup
  rw [kVs_of hx] at hb
  exact ⟨b, rfl, hb⟩
theorem kt_keys : ∀ {kvs : List (List Key × V)} {xs : List (List Key × Addr × Value)}, KT H kvs xs → DtL H (xs.map fun x => V.ref x.2.1) ((kvs.map (·.1)).map keyD)
  | _, _, .nil => .nil
  | _, _, .cons ⟨_, h2, _⟩ t => .cons (.tup h2 (dtl_key H _)) (kt_keys t)
theorem kt_size (I : Inv X pins σ H s) {kvs : List (List Key × V)} (hd : H r = some (.dT kvs)) : kvs.length ≤ sizeLine := (dt_of I.hok hd).1
theorem vals_by {xs : List V} : ∀ {us : List Value}, xs.length = us.length → (∀ (i : Nat) (x : V) (u : Value), xs[i]? = some x → us[i]? = some u → RelV x u) → Vals xs us := by
  induction xs with
  | nil =>
    intro us hl _
    cases us with
    | nil => exact .nil
    | cons _ _ => cases hl
  | cons x xs ih =>
    intro us hl h
    cases us with
    | nil => cases hl
    | cons u us => exact .cons (h 0 x u rfl rfl) (ih (by simpa using hl) fun i y z a b => h (i + 1) y z (by simpa using a) (by simpa using b))
theorem col_dict {kvs : List (List Key × V)} (hd : H r = some (.dT kvs)) : ColD X H r ((kvs.map (·.1)).map keyD) := fun pins σ s I => by
  obtain ⟨hz, lo, xs, kt, hx⟩ := dt_of I.hok hd
  obtain ⟨es, ep, hr, hsz, hent⟩ := hx.raw
  have hl : kvs.length = xs.length := Paired.length kt
  refine ⟨xs.map fun x => Value.ref x.2.1, xs.map fun x => V.ref x.2.1, vals_by (by simp) fun i x u e1 e2 => ?_, kt_keys kt, fun A E R hh hR => ?_⟩
  · rw [List.getElem?_map] at e1 e2
    cases q : xs[i]? with
    | none => rw [q] at e1; cases e1
    | some y =>
      rw [q] at e1 e2
      cases e1
      cases e2
      rfl
  · refine PySem.W.kdu_collect (A := A) (PySem.KdlSrc.rawDict lo) hh hr (by omega) fun h' tk acc hk hacc => ?_
    have e : acc.toList = xs.map fun x => Value.ref x.2.1 := by
      refine List.ext_getElem? fun i => ?_
      rw [Array.getElem?_toList, List.getElem?_map]
      by_cases hi : i < es.size
      · obtain ⟨y, hy, h1, _⟩ := hent i hi
        have hi2 : i < acc.size := by rw [hacc.1]; exact hi
        obtain ⟨_, h3⟩ := hacc.2 i acc[i] (Array.getElem?_eq_getElem hi2)
        rw [Array.getElem?_eq_getElem hi2, hy, h3, h1]
        rfl
      · rw [Array.getElem?_eq_none (by rw [hacc.1]; omega), List.getElem?_eq_none (by omega)]
        rfl
    rw [e]
    exact hR h' tk hk

/-- sorted(..) -/
def rSortC {β : Type} (X : Cx) (enc : β → PyData) : List V → Hp → VK → Prop := fun vs H Q => ∃ (r : Addr) (bs : List β), vs = [.ref r] ∧ ColD X H r (bs.map enc) ∧ AllAlike (bs.map enc) ∧ Sortable (bs.map enc) ∧ bs.length ≤ sizeLine ∧ (∀ b, b ∈ bs → X.A.units + 2 + (enc b).depth < cLine) ∧
  ∀ p ys, H p = none → DtL (upd H p (.lst ys)) ys ((bs.mergeSort (dataLe false enc)).map enc) → Q (.ref p) (upd H p (.lst ys))
theorem cr_sortC (hh : X.A.handled = none) : CallR X (.builtin "sorted") (rSortC X enc) := by
  intro pins s σ H vs us Q I r h
  obtain ⟨a, bs, rfl, col, hal, hk, hL, hu, q⟩ := h
  obtain ⟨us', xs, rv, hd, cl⟩ := col pins σ s I
  rw [Vals.ref1 r]
  exact sort_new I hh cl rv hd hal hk hL hu q
section
variable {T : List (Addr × Str)} {e a : Expr} {pos p p2 : Pos} {ds : List PyData}
theorem room66 {k : Nat} {A : Around} (r : Room k A) : A.units + 66 < cLine := by have := r.un; omega
/-- what can be collected, now and later -/
def ColM (T : List (Addr × Str)) (X : Cx) (H : Hp) (r : Addr) (ds : List PyData) : Prop := ∀ H', Le T H H' → ColD X H' r ds
theorem Le.dct {H' : Hp} (a : Le T H H') {d : Addr} {kvs : List (List Key × V)} (h : H d = some (.dT kvs)) : H' d = some (.dT kvs) := a.ex d _ h fun _ z => by cases z
def EvC (T : List (Addr × Str)) (X : Cx) (e : Expr) (σ : St) (H : Hp) (ds : List PyData) : Prop := ∀ H1, Le T H H1 → ∀ Q : VK, (∀ r H2, Le T H1 H2 → ColM T X H2 r ds → Q (.ref r) H2) → wE X e σ H1 Q
theorem ec_tup (h : EvD T X e σ H (.tuple ds)) : EvC T X e σ H ds := fun H1 l Q q => h H1 l _ fun v H2 l2 h2 => by
  obtain ⟨_, e, h2⟩ := h2
  cases e
  obtain ⟨r, xs, rfl, hr, hd⟩ := h2.inv_tup
  exact q r H2 l2 fun H' l' => col_tup (l'.tk _ _ hr) (hd.mono l'.tk)
theorem ec_lst {xs : List V} (h : Ev T X e σ H (.v (.ref r))) (hr : H r = some (.lst xs)) (hd : DtL H xs ds) : EvC T X e σ H ds := fun H1 l Q q => h H1 l _ fun v H2 l2 h2 => by
  have h2' : some v = some (V.ref r) := h2
  cases h2'
  exact q r H2 l2 fun H' l' => col_lst (((l.trans l2).trans l').lst hr) (hd.mono ((l.trans l2).trans l').tk)
theorem ec_new (h : EvL T X e σ H ds) : EvC T X e σ H ds := fun H1 l Q q => h H1 l _ fun r xs H2 hn l2 hr hd => q r H2 l2 fun H' l' => col_lst (l'.lst hr) (hd.mono l'.tk)
theorem ec_dict {kvs : List (List Key × V)} (h : Ev T X e σ H (.v (.ref r))) (hr : H r = some (.dT kvs)) : EvC T X e σ H ((kvs.map (·.1)).map keyD) := fun H1 l Q q => h H1 l _ fun v H2 l2 h2 => by
  have h2' : some v = some (V.ref r) := h2
  cases h2'
  exact q r H2 l2 fun H' l' => col_dict (((l.trans l2).trans l').dct hr)
theorem EvC.to {ds' : List PyData} (h : EvC T X e σ H ds) (e2 : ds = ds') : EvC T X e σ H ds' := e2 ▸ h
theorem ev_sorted (h : EvC T X a σ H (bs.map enc)) (hal : AllAlike (bs.map enc)) (hk : Sortable (bs.map enc)) (hL : bs.length ≤ 100000) {kR : Nat} (hr : Room kR X.A) (hu : ∀ b, b ∈ bs → (enc b).depth ≤ 64) (hm : X.mg "sorted" = none) (hg : Gl X "sorted" := by rfl)
    (hst : starEach [a] X.env = (false, eval a X.env) :: starEach [] X.env := by rfl) (hpl : (backTo pos (starEach [] X.env)).any (·.1) = false := by rfl) :
    EvL T X (.Call (.Name "sorted" p) [a] [] pos) σ H ((bs.mergeSort (dataLe false enc)).map enc) := fun H1 l Q q => by
  refine w_pe (pe_callB (cr_sortC (enc := enc) hr.hd) hg hm boot_sorted (pa_cons pe_w pa_nil hst) (by decide) (by decide) hst hpl) (h H1 l _ fun r H2 l2 col => ?_)
  exact ⟨r, bs, rfl, col H2 (.refl _), hal, hk, Nat.le_trans hL (by rw [sizeLine_eq]; decide), fun b hb => by have h1 := hu b hb; have h2 := hr.un; omega, fun p ys hp hd => q p ys _ (l2.fr p hp) (l2.trans (.new hp)) upd_same hd⟩
/-- tuple(..) of what is collected -/
theorem code_tupC {A : Around} {Q₁ : Value → Shared → Prop} {E : Value → Shared → Prop} {r : Addr} {us : List Value} {s : Shared} {Tn : String} (hT : s.TypeIs (.ref r) Tn) (hTn : Tn = "dict") (hh : A.handled = none) (col : Colls X s r us) (hsz : us.length ≤ sizeLine)
    (h : ∀ (h' : Heap) (tk : Nat), (∀ b o, s.heap.get? b = some o → h'.get? b = some o) → Q₁ (.ref h'.objs.size) { s with heap := h'.push { cls := .type "tuple", data := .seq us.toArray }, toks := tk }) :
    codeAny (model X.prog X.w) A (.call (.builtin "tuple.__new__") ⟨[.type "tuple", .ref r], []⟩) (wants Q₁ E) s := by
  subst hTn
  refine codeAny_of_tree ?_
  show wpAny _ A.in1 (do checkBuiltinCall "tuple.__new__" ⟨[.type "tuple", .ref r], []⟩; again (.builtin "tuple.__new__" ⟨[.type "tuple", .ref r], []⟩)) _ _ s
  refine wpAny_bind (wpAny_of_eq (F.newCall_tuple_1 _) (wpAny_pure ⟨plainId_quiet F.plain_tuple_new _, codeAny_builtin F.entry_tuple_new ?_⟩))
  rw [Around.under_plainId F.plain_tuple_new _]
  have hsub := sub_tuple_self
  have hinit := init_tuple_lookup
  have hmh := madeHere_tuple
  have col' : ∀ (E : Value → Shared → Prop) (R : List Value → Shared → Prop), (∀ (h' : Heap) (tk : Nat), (∀ b o, s.heap.get? b = some o → h'.get? b = some o) → R us { s with heap := h', toks := tk }) → wpAny (model X.prog X.w) A.in1 (collect (.ref r)) R E s := fun E R => col A.in1 E R hh
  wp_walk using wpAny_typeOf hT, col'
  intro h' tk hk
  show wpAny _ _ (Builtin.Tuple.tupleExact us.toArray >>= fun v => ret v) _ _ _
  unfold Builtin.Tuple.tupleExact
  refine wpAny_bind (wpAny_newObj_type ?_ (by show us.toArray.size ≤ sizeLine; rw [List.size_toArray]; exact hsz))
  exact wpAny_pure (h h' tk hk)
def rTupDict : List V → Hp → VK → Prop := fun vs H Q => ∃ (r : Addr) (kvs : List (List Key × V)), vs = [.ref r] ∧ H r = some (.dT kvs) ∧ ∀ p ys, H p = none → DtL (upd H p (.tup ys)) ys ((kvs.map (·.1)).map keyD) → Q (.ref p) (upd H p (.tup ys))
theorem cr_tupDict (hh : X.A.handled = none) : CallR X (.type "tuple") rTupDict := by
  intro pins s σ H vs us Q I r h
  obtain ⟨a, kvs, rfl, ha, q⟩ := h
  rw [Vals.ref1 r]
  obtain ⟨us', xs, rv, hd, cl⟩ := col_dict ha pins σ s I
  have hT : s.TypeIs (.ref a) "dict" := by
    obtain ⟨_, _, xs, _, hx⟩ := dt_of I.hok ha
    exact hx.typeIs
  have hsz : us'.length ≤ sizeLine := by
    have h1 := kt_size I ha
    have h2 := rv.length
    have h3 := hd.len
    rw [List.length_map, List.length_map] at h3
    omega
  refine callType_codes (Q₁ := fun obj s₁ => s₁.TypeIs obj "tuple" ∧ EP X pins σ Q obj s₁) F.called_tuple (F.typeCall_tuple_1 _) F.entry_object_init
    (code_tupC (A := X.A.in1) (E := X.xe) hT rfl hh cl hsz fun h' tk hk => ⟨⟨_, Heap.get?_push_size _ rfl, rfl⟩, ?_⟩) fun obj s₁ h₁ => ?_
  · have I1 : Inv X pins σ H { s with heap := h', toks := tk } := I.kept (t' := tk) hk
    have hn : H h'.objs.size = none := I1.hok.fresh (Nat.le_refl _)
    have g : (h'.push { cls := .type "tuple", data := .seq us'.toArray }).get? h'.objs.size = some { cls := .type "tuple", data := .seq us'.toArray } := Heap.get?_push_size _ rfl
    refine ⟨.ref h'.objs.size, upd H h'.objs.size (.tup xs), I1.laid (a := h'.objs.size) (t' := tk) (fun b o e => Heap.get?_push_of_some _ e) (Nat.le_refl _) ⟨by rw [rv.length]; exact hsz, us', rv, _, g, rfl, _, rfl⟩, rfl, q _ _ hn ?_⟩
    exact hd.mono fun b zs e => by rw [upd_ne (ne_of_none e hn)]; exact e
  · exact ⟨h₁.1, F.args_object_init_2 obj _, object_init_meets F.called_tuple.init.lookup F.called_tuple.made (by decide) X.prog X.w X.A.in1 _ s₁ ⟨h₁.1, rfl, h₁.2⟩⟩
section
variable {T : List (Addr × Str)} {a : Expr} {pos p : Pos}
/-- tuple(d), d a new dict -/
theorem ev_tupDict {ks : List (List Key)} (h : ∀ H1, Le T H H1 → ∀ Q : VK, (∀ r H2 kvs, Le T H1 H2 → H2 r = some (.dT kvs) → kvs.map (·.1) = ks → Q (.ref r) H2) → wE X a σ H1 Q) (hh : X.A.handled = none) (hm : X.mg "tuple" = none) (hg : Gl X "tuple" := by rfl)
    (hst : starEach [a] X.env = (false, eval a X.env) :: starEach [] X.env := by rfl) (hpl : (backTo pos (starEach [] X.env)).any (·.1) = false := by rfl) : EvD T X (.Call (.Name "tuple" p) [a] [] pos) σ H (.tuple (ks.map keyD)) := fun H1 l Q q => by
  refine w_pe (pe_callTy (cr_tupDict hh) hg hm PyProof.Rows.boot_tuple (pa_cons pe_w pa_nil hst) (by decide) (by decide) hst hpl) (h H1 l _ fun r H2 kvs l2 hr hk => ?_)
  subst hk
  exact ⟨r, kvs, rfl, hr, fun p ys hp hd => q _ _ (l2.trans (.new hp)) ⟨_, rfl, .tup upd_same hd⟩⟩
end
end
end
end RF
set_option Elab.async false
set_option linter.all false
set_option maxRecDepth 100000
set_option maxHeartbeats 4000000
/-! sorted(.., key=f), f a lambda of the text that calls the text's defs -/
namespace RF
open PySem PySem.Spec L2 LamX
open PyProof.Rows hiding St
open PySem.W (EachIs AllAlike Sortable dataLe alike alikeAll KeepsBut)

/-- the very object -/
def Exo (a : Addr) (o : Obj) : HO := .ext fun h => h.get? a = some o
theorem exo_ok {P : Program} {w : World} {H : Hp} {h : Heap} {a : Addr} {o : Obj} (e : h.get? a = some o) : ObjOk P w H h a (Exo a o) := ⟨e, ⟨o, e⟩, fun _ _ x k => k _ x⟩
theorem exo_get {P : Program} {w : World} {H : Hp} {h : Heap} {a : Addr} {o : Obj} (ok : HOk P w H h) (e : H a = some (Exo a o)) : h.get? a = some o := (ok a _ e).1
theorem exo_ntbl {a : Addr} {o : Obj} (ps : Array Value) : Exo a o ≠ .tbl ps := fun z => by
  unfold Exo at z
  cases z
/-- the tables do not lean on a sequence -/
theorem tabs_at {T : List (Addr × Str)} {P : Program} {w : World} {H : Hp} {h : Heap} {p : Addr} {o : Obj} {vs : Array Value} {n : Nat} {u : HO} (ok : HOk P w H h) (e : h.get? p = some o) (hd : o.data = .seq vs n) (t : Tabs T H) : Tabs T (upd H p u) := fun x hx => by
  obtain ⟨ps, h1, h2, h3⟩ := t x hx
  have np : x.1 ≠ p := fun z => by
    rw [z] at h1
    have q : h.get? p = some { cls := .none, data := .fields ps } := ok p _ h1
    rw [e] at q
    cases q
    cases hd
  refine ⟨ps, by rw [upd_ne np]; exact h1, h2, fun pos cv hc => ?_⟩
  obtain ⟨c, e1, e2⟩ := h3 pos cv hc
  refine ⟨c, e1, ?_⟩
  rw [upd_ne fun z => ?_]
  · exact e2
  · rw [z] at e2
    obtain ⟨⟨oc, ws, tt, q1, q2, _⟩, _, _⟩ := ok p _ e2
    rw [e] at q1
    cases q1
    rw [hd] at q2
    cases q2
section
variable {T : List (Addr × Str)} {X : Cx} {pins : List (Addr × Obj)} {σ : St} {H H0 : Hp} {s : Shared} {a kS : Addr} {e1 : Nat} {vs : List Value} {kz : List PyData} {f : Value} {P : PySem.Fin → Shared → Prop} {A : Around} {E : Value → Shared → Prop}
/-- a key of an item -/
def KeyTurn (T : List (Addr × Str)) (X : Cx) (σ : St) (A : Around) (H0 : Hp) (f v : Value) (k : PyData) : Prop := ∀ (H' : Hp) (pins : List (Addr × Obj)) (s' : Shared), Le T H0 H' → Inv X pins σ H' s' →
  wpAny (model X.prog X.w) A (call f [v]) (fun u s'' => ∃ y H'', Inv X pins σ H'' s'' ∧ Le T H' H'' ∧ RelV y u ∧ Dt H'' y k) (fun _ _ => False) s'
theorem inv_push {v : Value} {kA : Array Value} {e : Nat} (I : Inv X pins σ H s) (hk : FpOk X pins H kS) (nk : s.heap.get? kS = some (seqObj "list" kA e)) : Inv X pins σ H { s with heap := s.heap.update kS (Obj.mapSeq (·.push v)) } := by
  have s1 := Heap.SameBut.update s.heap kS (Obj.mapSeq (·.push v))
  exact I.turned (t' := s.toks) (fun b o hb q => (s1.2 b hb).trans q) hk.1 hk.2.1 hk.2.2.2.1 hk.2.2.2.2.1 hk.2.2.2.2.2
theorem keyI_rest (I : Inv X pins σ H s) (l : Le T H0 H) (h0 : H0 a = none) (ha : H a = some (Exo a (seqObj "list" #[] e1))) (hk : FpOk X pins H kS) (nk : s.heap.get? kS = some (seqObj "list" #[] 0))
    (hlen : kz.length = vs.length) (hZ : vs.length ≤ sizeLine) (hal : AllAlike kz) (hsk : Sortable kz) (hu : ∀ d, d ∈ kz → A.units + d.depth < cLine)
    (turn : ∀ (i : Nat) (v : Value) (k : PyData), vs[i]? = some v → kz[i]? = some k → KeyTurn T X σ A H0 f v k)
    (h : ∀ H' s' out c, Le T H0 H' → H' a = some (Exo a (seqObj "list" (List.toArray out) c)) → Inv X pins σ H' s' → PySem.W.KeyedOut false kz vs out → P (.done (.ret .none)) s') :
    wpAny (model X.prog X.w) A (ksk_rest a f false vs.toArray e1 (.ref kS)) P E s := by
  have hka : kS ≠ a := fun z => by
    have := hk.1
    rw [z, ha] at this
    cases this
  unfold ksk_rest
  refine wpAny_bind (wpAny_rule ?_)
  first
    | rw [List.forIn_toArray]
    | (rw [← Array.forIn_toList]; simp only [List.toList_toArray])
    | rw [← Array.forIn_toList]
  refine wpAny_bind (ksk_fold (fun i s' => ∃ H' kA e, Inv X pins σ H' s' ∧ Le T H0 H' ∧ H' a = some (Exo a (seqObj "list" #[] e1)) ∧ FpOk X pins H' kS ∧ s'.heap.get? kS = some (seqObj "list" kA e) ∧ EachIs (fun u d => ∃ y, RelV y u ∧ Dt H' y d) kA.toList (kz.take i)) vs 0 s
    ⟨H, #[], 0, I, l, ha, hk, nk, by rw [List.take_zero]; exact EachIs.nil⟩ ?step ?done)
  case step =>
    rintro j x s' hx ⟨H', kA, e, I', l', ha', hk', nk', hE⟩
    simp only [Nat.zero_add] at hE ⊢
    have hj : j < vs.length := (List.getElem?_eq_some_iff.mp hx).1
    obtain ⟨k, hkj⟩ : ∃ k, kz[j]? = some k := ⟨_, List.getElem?_eq_getElem (by omega)⟩
    have hz : kA.size ≤ vs.length := by
      have q := hE.length
      rw [Array.length_toList, List.length_take] at q
      omega
    have Ip : Inv X (pins ++ pinsAt [kS] s'.heap) σ H' s' := I'.pinned (fp := [kS]) (fun b hb => by rw [List.mem_singleton.mp hb]; exact hk') fun b hb => by
      rw [List.mem_singleton.mp hb]
      exact ⟨_, nk', fun v q => by cases q⟩
    have hmem : (kS, seqObj "list" kA e) ∈ pinsAt [kS] s'.heap := mem_pinsAt (List.mem_singleton.mpr rfl) nk'
    refine wpAny_bind (wpAny_attempt (wpAny_mono (turn j x k hx hkj H' _ s' l' Ip) (fun v s'' he => ?_) fun _ _ hF => hF.elim))
    obtain ⟨y, H'', I2, l2, ry, dy⟩ := he
    have pk := I2.pin _ (List.mem_append_right _ (List.mem_append_right _ hmem))
    have nk2 : s''.heap.get? kS = some (seqObj "list" kA e) := pk.1
    have hk2 : FpOk X pins H'' kS := ⟨pk.2.1, hk'.2⟩
    have ha2 : H'' a = some (Exo a (seqObj "list" #[] e1)) := l2.ex _ _ ha' fun _ => exo_ntbl _
    obtain ⟨c2, hc2⟩ : ∃ c2, (s''.heap.update kS (Obj.mapSeq (·.push v))).get? kS = some (seqObj "list" (kA.push v) c2) := ⟨_, get?_update_seq nk2 (·.push v)⟩
    have I3 := inv_push (v := v) I2.unpinned hk2 nk2
    try dsimp only
    refine wpAny_bind (listUpdate_at nk2 rfl ?_ (Nat.le_trans hz hZ) (Nat.le_trans (Nat.le_of_eq (Array.size_push ..)) (Nat.succ_le_succ (Nat.le_trans hz hZ))))
    refine wpAny_pure ⟨rfl, H'', kA.push v, c2, I3, l'.trans l2, ha2, hk2, hc2, ?_⟩
    have ek : kz.take (j + 1) = kz.take j ++ [k] := by rw [List.take_add_one, hkj]; simp
    have ea : (kA.push v).toList = kA.toList ++ [v] := by simp
    rw [ea, ek]
    exact PySem.W.each_snoc (R := fun (u : Value) (d : PyData) => ∃ y, RelV y u ∧ Dt H'' y d) ⟨y, ry, dy⟩ (hE.mono fun u d ⟨y, r, q⟩ => ⟨y, r, q.mono l2.tk⟩)
  case done =>
    rintro s' ⟨H', kA, e, I', l', ha', hk', nk', hE⟩
    have hE' : EachIs (fun v k => ∃ as, Reads s'.heap v k as) kA.toList kz := by
      have e3 : kz.take (0 + vs.length) = kz := List.take_of_length_le (by omega)
      rw [e3] at hE
      exact hE.mono fun v k ⟨y, r, q⟩ => ⟨[], Dt.rd I'.hok _ _ _ q r⟩
    have hsz : kA.size = vs.length := by
      have q := hE'.length
      rw [Array.length_toList] at q
      omega
    have na' := exo_get I'.hok ha'
    try dsimp only
    refine wpAny_bind (listItems_at nk' rfl ?_)
    have kp : KeepsBut a (PySem.W.hideAll s'.heap [kS]) s'.heap := fun b o _ q => PySem.W.of_hideAll _ q
    refine PySem.W.keyH_end (b := false) (κ := PySem.W.dataKind s'.heap kz) (h₁ := PySem.W.hideAll s'.heap [kS]) kp (PySem.W.hideAll_none _ (List.mem_singleton.mpr rfl)) nk' na' hka (PySem.W.SortsAt.data hE' hal hsk hu) hsz hZ fun h3 tk3 c k3 n3 => ?_
    refine h (upd H' a (Exo a (seqObj "list" (List.toArray (PySem.W.sortVals (PySem.W.dataKind s'.heap kz) false kA.toList vs)) c))) _ _ c (l'.mut h0 (tabs_at I'.hok na' rfl)) upd_same ?_ ⟨s'.heap, kA.toList, hal, rfl, hE'⟩
    -- first the list, then the key store
    have sb := Heap.SameBut.update s'.heap a (fun _ => seqObj "list" (List.toArray (PySem.W.sortVals (PySem.W.dataKind s'.heap kz) false kA.toList vs)) c)
    have ga : (s'.heap.update a (fun _ => seqObj "list" (List.toArray (PySem.W.sortVals (PySem.W.dataKind s'.heap kz) false kA.toList vs)) c)).get? a = some (seqObj "list" (List.toArray (PySem.W.sortVals (PySem.W.dataKind s'.heap kz) false kA.toList vs)) c) := Heap.get?_update_self _ na' rfl
    have J := I'.write (t' := tk3) (x := a) (e := a) (o := Exo a (seqObj "list" (List.toArray (PySem.W.sortVals (PySem.W.dataKind s'.heap kz) false kA.toList vs)) c)) (by rw [ha']; exact True.intro) (.inl rfl) (fun b u hb q => (sb.2 b hb).trans q) ⟨_, ga⟩ (exo_ok ga)
    have hk3 : FpOk X pins (upd H' a (Exo a (seqObj "list" (List.toArray (PySem.W.sortVals (PySem.W.dataKind s'.heap kz) false kA.toList vs)) c))) kS := ⟨by rw [upd_ne hka]; exact hk'.1, hk'.2⟩
    refine Inv.turned (s := { s' with heap := s'.heap.update a (fun _ => seqObj "list" (List.toArray (PySem.W.sortVals (PySem.W.dataKind s'.heap kz) false kA.toList vs)) c), toks := tk3 }) J (t' := tk3) (h' := h3) (it := kS) (fun b o hb q => ?_) hk3.1 hk3.2.1 hk3.2.2.2.1 hk3.2.2.2.2.1 hk3.2.2.2.2.2
    by_cases hba : b = a
    · rw [hba] at q ⊢
      rw [n3]
      exact ga.symm.trans q
    · have q1 : s'.heap.get? b = some o := (sb.2 b hba).symm.trans q
      exact k3 b o hba (PySem.W.hideAll_get _ q1 (by simpa using hb))

theorem sort_key {r fA : Addr} {β : Type} {enc key : β → PyData} {bs : List β} {Q : VK} (I : Inv X pins σ H s) (hh : X.A.handled = none) {us : List Value} {xs : List V} (col : Colls X s r us) (rv : Vals xs us) (hd : DtL H xs (bs.map enc)) (hal : AllAlike (bs.map key)) (hsk : Sortable (bs.map key)) (hL : bs.length ≤ sizeLine)
    (hu : ∀ b, b ∈ bs → X.A.units + 2 + (key b).depth < cLine) (turn : ∀ (v : Value) (b : β), b ∈ bs → Std H enc v b → KeyTurn T X σ X.A.in1.in1 H (.ref fA) v (key b))
    (q : ∀ p ys H', H p = none → Le T H H' → H' p = some (.lst ys) → DtL H' ys ((bs.mergeSort (dataLe false key)).map enc) → Q (.ref p) H') :
    wpAny (model X.prog X.w) X.A (call (.builtin "sorted") [.ref r] [(Str.ofString "key", .ref fA)]) (EP X pins σ Q) X.xe s := by
  have el := std_each hd rv
  have hlen : us.length = bs.length := el.length
  refine call_function_entry_kw kind_sorted plain_sorted entry_sorted (ksk_s1 _ _) ?_
  unfold Builtin.«sorted»
  refine wpAny_bind (m := checkCount "sorted" 1 1 _) (wpAny_pure ?_)
  refine wpAny_bind (col X.A.in1 X.xe _ hh fun h' tk hk' => ?_)
  refine wpAny_bind (wpAny_newList ?_ (by rw [hlen]; exact hL))
  have I1 : Inv X pins σ H { s with heap := h', toks := tk } := I.kept (t' := tk) hk'
  have hfr : H h'.objs.size = none := I1.hok.fresh (Nat.le_refl _)
  have hob : (h'.push { cls := .type "list", data := .seq us.toArray }).get? h'.objs.size = some (seqObj "list" us.toArray 0) := Heap.get?_push_size _ rfl
  have hsz2 : (h'.push { cls := .type "list", data := .seq us.toArray }).objs.size = h'.objs.size + 1 := Heap.size_push ..
  generalize hh2 : h'.push { cls := .type "list", data := .seq us.toArray } = h2 at hob hsz2 ⊢
  have k2 : ∀ b o, h'.get? b = some o → h2.get? b = some o := fun b o e => by rw [← hh2]; exact Heap.get?_push_of_some _ e
  obtain ⟨e1, ho1⟩ : ∃ e1, (h2.update h'.objs.size (Obj.mapSeq fun _ => (#[] : Array Value))).get? h'.objs.size = some (seqObj "list" #[] e1) := ⟨_, get?_update_seq hob fun _ => #[]⟩
  have hzu : (h2.update h'.objs.size (Obj.mapSeq fun _ => (#[] : Array Value))).objs.size = h'.objs.size + 1 := by rw [Heap.size_update, hsz2]
  refine wpAny_bind (wpAny_holding (wpAny_call_entry_kw slot_list_sort ⟨_, hob, rfl⟩ entry_list_sort ?_ (ksk_l1 _ _)))
  rw [ksk_t1]
  unfold ksk_tree
  refine wpAny_bind (listItems_at hob rfl ?_)
  refine wpAny_bind (listUpdate_at hob rfl ?_ (by rw [List.size_toArray, hlen]; exact hL) (Nat.zero_le _))
  refine wpAny_bind (seqEpoch_at ho1 rfl ?_)
  refine wpAny_bind (wpAny_newTuple ?_ (by show us.length ≤ _; rw [hlen]; exact hL))
  refine wpAny_bind (wpAny_newList ?_ (Nat.zero_le _))
  refine wpAny_holding ?_
  have hkS : ((h2.update h'.objs.size (Obj.mapSeq fun _ => (#[] : Array Value))).push (seqObj "tuple" us.toArray 0)).objs.size = h'.objs.size + 2 := by rw [size_push', hzu]
  have gD : (((h2.update h'.objs.size (Obj.mapSeq fun _ => (#[] : Array Value))).push (seqObj "tuple" us.toArray 0)).push (seqObj "list" #[] 0)).get? h'.objs.size = some (seqObj "list" #[] e1) := Heap.get?_push_of_some _ (Heap.get?_push_of_some _ ho1)
  have gK : (((h2.update h'.objs.size (Obj.mapSeq fun _ => (#[] : Array Value))).push (seqObj "tuple" us.toArray 0)).push (seqObj "list" #[] 0)).get? ((h2.update h'.objs.size (Obj.mapSeq fun _ => (#[] : Array Value))).push (seqObj "tuple" us.toArray 0)).objs.size = some (seqObj "list" #[] 0) := Heap.get?_push_size _ rfl
  have kk : ∀ b o, h'.get? b = some o → (((h2.update h'.objs.size (Obj.mapSeq fun _ => (#[] : Array Value))).push (seqObj "tuple" us.toArray 0)).push (seqObj "list" #[] 0)).get? b = some o := fun b o e =>
    Heap.get?_push_of_some _ (Heap.get?_push_of_some _ (((Heap.SameBut.update h2 h'.objs.size _).2 b (Nat.ne_of_lt (Heap.lt_size e))).trans (k2 b o e)))
  have I2 := I1.laid (a := h'.objs.size) (o := Exo h'.objs.size (seqObj "list" #[] e1)) (t' := tk) kk (Nat.le_refl _) (exo_ok gD)
  have lD : Le T H (upd H h'.objs.size (Exo h'.objs.size (seqObj "list" #[] e1))) := .new hfr
  have hkF : FpOk X pins (upd H h'.objs.size (Exo h'.objs.size (seqObj "list" #[] e1))) ((h2.update h'.objs.size (Obj.mapSeq fun _ => (#[] : Array Value))).push (seqObj "tuple" us.toArray 0)).objs.size := by
    refine I1.fpOk (by rw [hkS]; exact Nat.le_add_right _ _) ?_
    have hne : ((h2.update h'.objs.size (Obj.mapSeq fun _ => (#[] : Array Value))).push (seqObj "tuple" us.toArray 0)).objs.size ≠ h'.objs.size := by
      rw [hkS]
      exact Nat.ne_of_gt (Nat.lt_add_of_pos_right (by decide))
    rw [upd_ne hne]
    exact I1.hok.fresh (by rw [hkS]; exact Nat.le_add_right _ _)
  refine keyI_rest (T := T) (H0 := H) (s := { s with heap := ((h2.update h'.objs.size (Obj.mapSeq fun _ => (#[] : Array Value))).push (seqObj "tuple" us.toArray 0)).push (seqObj "list" #[] 0), toks := tk }) (kz := bs.map key) I2 lD hfr upd_same hkF gK (by rw [List.length_map]; exact hlen.symm) (by rw [hlen]; exact hL) hal hsk ?_ (fun i v k hv hk => ?_) fun H' s' out c l' hD I' ko => ⟨.none, rfl, ?_⟩
  · intro d hd'
    obtain ⟨b, hb, rfl⟩ := List.mem_map.mp hd'
    exact hu b hb
  · rw [List.getElem?_map] at hk
    cases qb : bs[i]? with
    | none => rw [qb] at hk; cases hk
    | some b =>
      rw [qb] at hk
      cases hk
      have hz : (v, b) ∈ us.zip bs := List.mem_of_getElem? (i := i) (by rw [List.getElem?_zip_eq_some]; exact ⟨hv, qb⟩)
      exact turn v b (List.mem_of_getElem? qb) (el.zip _ hz)
  · have eo := PySem.W.keyedOut_each key ko el
    obtain ⟨ys, rv', hd'⟩ := each_std eo
    have gE := exo_get I'.hok hD
    have n1 : ys.length ≤ sizeLine := by
      rw [rv'.length, ko.length (by rw [List.length_map]; exact hlen.symm), hlen]
      exact hL
    have hn : Tk H (upd H' h'.objs.size (.lst ys)) := fun b zs e => by
      rw [upd_ne (ne_of_none e hfr)]
      exact l'.tk b zs e
    have J := I'.write (t' := s'.toks) (h' := s'.heap) (x := h'.objs.size) (e := h'.objs.size) (o := .lst ys) (by rw [hD]; exact True.intro) (.inl rfl) (fun b u _ z => z) ⟨_, gE⟩ ⟨n1, out, c, rv', gE⟩
    exact wpAny_pure ⟨_, rfl, .ref h'.objs.size, _, J, rfl, q h'.objs.size ys _ hfr (l'.mut hfr (tabs_at I'.hok gE rfl)) upd_same (hd'.mono hn)⟩
end
end RF
set_option Elab.async false
set_option linter.all false
set_option maxRecDepth 100000
set_option maxHeartbeats 4000000
/-! lambdas of the text: made, called -/
namespace RF
open PySem PySem.Spec L2 LamX NdefX
open PyProof.Rows hiding St
open PySem.W (EachIs AllAlike Sortable dataLe)

/-- a lambda's object -/
def LamO (f : Addr) (F : NF) (e : Expr) : HO := .ext fun h => ∃ pm ctv : Value, h.get? f = some (PySem.W.kla_obj F.name F.qual F.params e F.scope F.cl pm F.c ctv)
theorem lamO_ntbl {f : Addr} {F : NF} {e : Expr} (ps : Array Value) : LamO f F e ≠ .tbl ps := fun z => by
  unfold LamO at z
  cases z
theorem codeO_ntbl {c : Addr} {q : Str} (ps : Array Value) : CodeO c q ≠ .tbl ps := fun z => by
  unfold CodeO at z
  cases z
abbrev lamQ (X : Cx) : Str := X.env.qual ++ "<lambda>"
/-- the words of a lambda -/
abbrev lamF (X : Cx) (params : Arguments) (scope : Scope) (c : Addr) : NF := ⟨"<lambda>", lamQ X, params, [], scope, cloFrom X.env.cells scope.names [], c⟩
/-- where the def's code object and its table stand -/
structure LamT (T : List (Addr × Str)) (X : Cx) : Prop where
  ex : ∃ c Pt, TabB X.base X.mg c Pt ∧ X.env.code = .ref c ∧ (Pt, lamQ X) ∈ T ∧ ∀ p ∈ T, p.1 = Pt → p.2 = lamQ X
section
variable {T : List (Addr × Str)} {X : Cx} {pins : List (Addr × Obj)} {σ : St} {H : Hp} {s : Shared} {params : Arguments} {body : Expr} {scope : Scope} {pos : Pos}
theorem lam_new {c' : Addr} {pm ctv : Value} {t' : Nat} (I : Inv X pins σ H s) (F : NF) (hc : F.c = c') :
    Inv X pins σ (upd H s.heap.objs.size (LamO s.heap.objs.size F body)) { s with heap := s.heap.push (PySem.W.kla_obj F.name F.qual F.params body F.scope F.cl pm F.c ctv), toks := t' } := by
  refine I.laid (a := s.heap.objs.size) (fun b u e => Heap.get?_push_of_some _ e) (Nat.le_refl _) ?_
  have e : (s.heap.push (PySem.W.kla_obj F.name F.qual F.params body F.scope F.cl pm F.c ctv)).get? s.heap.objs.size = some (PySem.W.kla_obj F.name F.qual F.params body F.scope F.cl pm F.c ctv) := Heap.get?_push_size _ rfl
  exact ⟨⟨pm, ctv, e⟩, ⟨_, e⟩, fun _ _ ⟨p, t, z⟩ st => ⟨p, t, st _ z⟩⟩
def tLamM (T : List (Addr × Str)) (X : Cx) (params : Arguments) (body : Expr) (scope : Scope) : TE := fun _ H Q => Tabs T H ∧ ∀ (f c' : Addr) (H1 : Hp), Le T H H1 → H f = none → H1 f = some (LamO f (lamF X params scope c') body) → H1 c' = some (CodeO c' (lamQ X)) → Q (.ref f) H1
theorem pe_lam (L : LamT T X) (hdef : defaultsOf params X.env = ([], [])) (hfree : ∀ y ∈ scope.names, y.2 = .free → X.env.scope.names.lookup y.1 = some .cell ∨ X.env.scope.names.lookup y.1 = some .free) :
    PE X (.Lambda params body scope pos) (tLamM T X params body scope) := by
  refine ⟨fun pins s σ H Q I h => ?_⟩
  obtain ⟨hT, q⟩ := h
  obtain ⟨c, P, TB, hcode, hm, hu⟩ := L.ex
  have hfr : ∀ y ∈ scope.names, y.2 = .free → ∃ c, X.env.cells.lookup y.1 = some c := fun y hy e => (hfree y hy e).elim (fun z => I.ok.has _ (.inl z)) fun z => I.ok.has _ (.inr z)
  obtain ⟨ps, hP, ht, ha⟩ := hT _ hm
  have bP : s.heap.BuiltinsAt X.mg P := TB.bm.keeps I.bk
  have hP' : s.heap.get? P = some { cls := .none, data := .fields ps } := I.hok P _ hP
  refine PySem.W.kla_eval hdef ?_
  cases hc : codeAmong pos ps.toList with
  | some cv =>
    obtain ⟨c', rfl, hco⟩ := ha pos cv hc
    refine PySem.W.kla_makeFunctionHit (mg := X.mg) (c := c) (P := P) (ps := ps) (closure_ok hfr) I.ok.glob (I.mod.glob.keeps I.bk) hcode
      (TB.code.keeps I.bk) hP' ht hc bP fun ctv h' tk hx hsz => ?_
    have I1 : Inv X pins σ H { s with heap := h', toks := tk } := I.kept hx
    have nF : H h'.objs.size = none := I1.hok.fresh (Nat.le_refl _)
    have I2 := lam_new (body := body) (t' := tk) (pm := (X.mg "__name__").getD .none) (ctv := ctv) I1 (lamF X params scope c') rfl
    exact ⟨.ref h'.objs.size, _, I2, rfl, q _ c' _ (.new nF) nF upd_same (by rw [upd_ne (ne_of_none hco nF)]; exact hco)⟩
  | none =>
    refine PySem.W.kla_makeFunction (mg := X.mg) (c := c) (P := P) (ps := ps) (closure_ok hfr) I.ok.glob (I.mod.glob.keeps I.bk) hcode
      (TB.code.keeps I.bk) hP' ht hc TB.gP bP fun c' ctv h' tk hx hge hlt hrec htb => ?_
    obtain ⟨c2, oc, vs, t, e2, hoc, hd, hv⟩ := hrec
    cases e2
    have nC : H c' = none := I.hok.fresh hge
    have I1 := inv_table (t' := tk) (more := #[rawInt pos.line, rawInt pos.col, .ref c']) (h' := h') I hP (fun b o hb e => hx b o hb e) htb hge ⟨oc, vs, t, hoc, hd, hv⟩
    have nP : c' ≠ P := fun z => by rw [z, hP] at nC; cases nC
    have keep : ∀ b o, H b = some o → (∀ ps, o ≠ .tbl ps) → upd (upd H P (.tbl (ps ++ #[rawInt pos.line, rawInt pos.col, .ref c']))) c' (CodeO c' (lamQ X)) b = some o := fun b o e n => by
      rw [upd_ne (ne_of_none e nC), upd_ne fun z => ?_]
      · exact e
      · rw [z, hP] at e
        exact n ps (Option.some.inj e).symm
    have eL : (ps ++ #[rawInt pos.line, rawInt pos.col, .ref c']).toList = ps.toList ++ [rawInt pos.line, rawInt pos.col, .ref c'] := by simp
    have T1 : Tabs T H → Tabs T (upd (upd H P (.tbl (ps ++ #[rawInt pos.line, rawInt pos.col, .ref c']))) c' (CodeO c' (lamQ X))) := fun hT p hp => by
      by_cases hb : p.1 = P
      · have hq := hu p hp hb
        refine ⟨ps ++ #[rawInt pos.line, rawInt pos.col, .ref c'], ?_, ?_, fun p' cv hcv => ?_⟩
        · rw [hb, upd_ne (Ne.symm nP), upd_same]
        · rw [eL]
          exact PySem.TriplesOk_snoc _ _ _ _ ht
        · rw [eL] at hcv
          rw [hq]
          rcases among_app _ ht hcv with z | z
          · obtain ⟨c0, e1, e2⟩ := ha p' cv z
            exact ⟨c0, e1, keep _ _ e2 codeO_ntbl⟩
          · exact ⟨c', z, upd_same⟩
      · obtain ⟨ps', a1, a2, a3⟩ := hT p hp
        refine ⟨ps', ?_, a2, fun p' cv hcv => ?_⟩
        · rw [upd_ne (ne_of_none a1 nC), upd_ne hb]
          exact a1
        · obtain ⟨c0, e1, e2⟩ := a3 p' cv hcv
          exact ⟨c0, e1, keep _ _ e2 codeO_ntbl⟩
    have l1 : Le T H (upd (upd H P (.tbl (ps ++ #[rawInt pos.line, rawInt pos.col, .ref c']))) c' (CodeO c' (lamQ X))) := ⟨keep, T1, fun b hb => upd_none (upd_none hb)⟩
    have nF : upd (upd H P (.tbl (ps ++ #[rawInt pos.line, rawInt pos.col, .ref c']))) c' (CodeO c' (lamQ X)) h'.objs.size = none := I1.hok.fresh (Nat.le_refl _)
    have I2 := lam_new (body := body) (t' := tk) (pm := (X.mg "__name__").getD .none) (ctv := ctv) I1 (lamF X params scope c') rfl
    refine ⟨.ref h'.objs.size, _, I2, rfl, q _ c' _ (l1.trans (.new nF)) (l1.fr _ nF) upd_same ?_⟩
    rw [upd_ne (Nat.ne_of_lt hlt)]
    exact upd_same
end

/-! ### the call -/
section
variable {P : Program} {w : World} {K : PySem.W.Frag} {mg : Str → Option Value} {base : Heap} {N ps fr : List Str} {F : NF} {f : Addr} {A : Around} {outer : List Env} {s : Shared} {H : Hp} {us : List Value} {vs : List V} {ws : List (Option V)} {k : Nat} {e : Expr}
/-- the context of a lambda's body -/
abbrev lamX (P : Program) (w : World) (K : PySem.W.Frag) (mg : Str → Option Value) (base : Heap) (N : List Str) (F : NF) (f : Addr) (A : Around) (outer : List Env) (s : Shared) (H : Hp) : Cx := (ncx CX0 P w K mg base N F f A outer s H E0).nox
theorem lam_run {Q : VK} (S : NScope N ps fr F.scope) (hb : ∀ (pm ctv : Value) (us : List Value), us.length = ps.length → bindArgs (PySem.W.kla_fn F.name F.qual F.params e F.scope F.cl pm (.ref F.c) ctv) ⟨us, []⟩ = pure (ps.zip us))
    (hr : Room (k + 1) A) (e0 : Env0 P w K mg base A outer s H) (hf : H f = some (LamO f F e)) (hc : H F.c = some (CodeO F.c F.qual)) (C : CellsAt F.cl fr ws s.heap H) (r : Vals vs us) (hl : vs.length = ps.length)
    (hbody : Room k (lamX P w K mg base N F f A outer s H).A → wE (lamX P w K mg base N F f A outer s H) e (startF N vs ws) H Q) : codeAny (model P w) A (.call (.ref f) ⟨us, []⟩) (CR CX0 outer P w H s Q E0) s := by
  have lim : s.heap.NoLimit := e0.mod.nolimit.keeps fun b o z => (e0.bs b o z).1
  obtain ⟨pm, ctv, ho⟩ := (e0.hok f _ hf).1
  refine PySem.W.kla_callFunE hr.depth ho rfl S.co S.gen rfl (codeO_at e0.hok hc) ?_
  rw [hb pm ctv us (by rw [← r.length]; exact hl)]
  refine wpAny_pure (wpAny_newFunctionEnv S.nocell (fun ⟨n, _⟩ hy => S.par n (List.of_mem_zip hy).1) (fun h₁ hns hsb => ⟨lim.fresh _ hsb, ?_⟩) S.kind)
  have kp : ∀ b o, s.heap.get? b = some o → h₁.get? b = some o := fun b o z => hsb.extBut b o (Nat.ne_of_lt (Heap.lt_size z)) (Heap.get?_push_of_some _ z)
  have I : Inv (ncx CX0 P w K mg base N F f A outer s H E0) [] (startF N vs ws) H { s with heap := h₁, toks := s.toks + (ps.zip us).length } := inv_startN S hr.hd e0 hl r C hns kp
  have q := hbody (hr.deeper _)
  refine PySem.W.kla_codeExpr (wpAny_mono ((PE.nox (X := ncx CX0 P w K mg base N F f A outer s H E0) pe_w).run [] _ _ _ Q I q) (fun v s' hs => ?_) fun e' s' hs => hs)
  obtain ⟨y, H', J, rv, q'⟩ := hs
  exact ⟨y, H', J.os, J.bare, J.base, J.hok, rv, q'⟩
end
/-- a lambda's body's context, seen from the def that made it -/
def InLam (X : Cx) (N : List Str) (params : Arguments) (scope : Scope) (k : Nat) (Xl : Cx) : Prop := ∃ (c' f : Addr) (A : Around) (s : Shared) (H : Hp), Xl = lamX X.prog X.w X.K X.mg X.base N (lamF X params scope c') f A X.stack s H ∧ Room k Xl.A
section
variable {T : List (Addr × Str)} {X : Cx} {σ : St} {H : Hp} {N ps fr : List Str} {js : List Nat} {params : Arguments} {body : Expr} {scope : Scope} {k : Nat} {f c' : Addr} {β : Type} {enc key : β → PyData} {b : β} {v : Value} {A : Around}
theorem wp_false {M : Model} {A : Around} {t : Sem Value} {Q : Value → Shared → Prop} {E E' : Value → Shared → Prop} {s : Shared} (h : wpAny M A t Q E s) (hE : ∀ e s', ¬ E e s') : wpAny M A t Q E' s := wpAny_mono h (fun _ _ x => x) fun e s' x => (hE e s' x).elim
theorem turn_lam (Sx : NScope N ps fr scope) (hp : ps.length = 1) (hbi : ∀ (q : Str) (cl : List (Str × Addr)) (pm cv ctv : Value) (us : List Value), us.length = ps.length → bindArgs (PySem.W.kla_fn "<lambda>" q params body scope cl pm cv ctv) ⟨us, []⟩ = pure (ps.zip us))
    (hr : Room (k + 1) A) (hAe : ∀ s H, Env0 X.prog X.w X.K X.mg X.base X.A X.stack s H → Env0 X.prog X.w X.K X.mg X.base A X.stack s H) (hfree : ∀ y ∈ scope.names, y.2 = .free → X.env.scope.names.lookup y.1 = some .cell ∨ X.env.scope.names.lookup y.1 = some .free) (hfr : ∀ y ∈ fr, (y, NameKind.free) ∈ scope.names) (hjs : js.map (fun j => X.N[j]?) = fr.map some)
    (hf : H f = some (LamO f (lamF X params scope c') body)) (hc : H c' = some (CodeO c' (lamQ X))) (hv : Std H enc v b)
    (hbody : ∀ (y : V) (H' : Hp) (Xl : Cx), InLam X N params scope k Xl → Le T H H' → Dt H' y (enc b) → EvD T Xl body (startF N [y] (js.map (slotAt σ))) H' (key b)) : KeyTurn T X σ A H (.ref f) v (key b) := by
  intro H' pins s' l I
  obtain ⟨y, ry, dy⟩ := hv
  have hf' := l.ex _ _ hf fun _ => lamO_ntbl _
  have hc' := l.ex _ _ hc fun _ => codeO_ntbl _
  have C := cells_of I (Caps.made I.ok hfree hfr hjs)
  refine wpAny_call (codeAny_mono (lam_run (F := lamF X params scope c') (vs := [y]) (us := [v]) (Q := fun z H'' => Le T H' H'' ∧ Dt H'' z (key b)) Sx (hbi _ _ · _ ·) hr (hAe _ _ I.env0) hf' hc' C (.cons ry .nil) hp.symm fun hr' => ?_) fun r s2 hq => ?_)
  · refine hbody y H' _ ⟨c', f, A, s', H', rfl, hr'⟩ l (dy.mono l.tk) H' (.refl _) _ fun z H2 l2 h2 => ?_
    obtain ⟨_, e, h2⟩ := h2
    cases e
    exact ⟨l2, h2⟩
  · cases r with
    | error e => exact (show False from hq).elim
    | ok fl =>
      cases fl with
      | ret u =>
        obtain ⟨z, H2, I2, rz, q1, q2⟩ := I.after hq
        exact ⟨z, H2, I2, q1, rz, q2⟩
      | next => exact False.elim hq
      | brk => exact False.elim hq
      | cont => exact False.elim hq

/-- sorted(a, key=lambda ..) -/
theorem ev_sortedKey {a : Expr} {bs : List β} {p kpos lpos pos : Pos} {x1 : Str} (L : LamT T X) (hTb : Tabs T H) (hsrc : EvC T X a σ H (bs.map enc)) (hal : AllAlike (bs.map key)) (hsk : Sortable (bs.map key)) (hL : bs.length ≤ 100000) (hu : ∀ b, b ∈ bs → (key b).depth ≤ 64)
    (hr : Room (k + 3) X.A) (Sx : NScope N [x1] fr scope) (hjs : js.map (fun j => X.N[j]?) = fr.map some)
    (hfree : ∀ y ∈ scope.names, y.2 = .free → X.env.scope.names.lookup y.1 = some .cell ∨ X.env.scope.names.lookup y.1 = some .free) (hfr : ∀ y ∈ fr, (y, NameKind.free) ∈ scope.names)
    (hbody : ∀ (b : β) (y : V) (H' : Hp) (Xl : Cx), b ∈ bs → InLam X N params scope k Xl → Le T H H' → Dt H' y (enc b) → EvD T Xl body (startF N [y] (js.map (slotAt σ))) H' (key b))
    (hm : X.mg "sorted" = none)
    (hbi : ∀ (q : Str) (cl : List (Str × Addr)) (pm cv ctv : Value) (us : List Value), us.length = [x1].length → bindArgs (PySem.W.kla_fn "<lambda>" q params body scope cl pm cv ctv) ⟨us, []⟩ = pure ([x1].zip us) := by exact fun _ _ _ _ _ us hl => match us, hl with | [_], _ => rfl)
    (hdef : defaultsOf params X.env = ([], []) := by rfl) (hg : Gl X "sorted" := by rfl)
    (hst : starEach [a] X.env = (false, eval a X.env) :: starEach [] X.env := by rfl)
    (he : backTo pos (starEach [a] X.env) = (false, eval a X.env) :: backTo pos (starEach [] X.env) := by rfl) (hpl : (backTo pos (starEach [a] X.env)).any (·.1) = false := by rfl)
    (hall : (backToKw pos (keywordEach [⟨some "key", .Lambda params body scope lpos, kpos⟩] X.env)).all (·.1.isSome) = true := by rfl) (hnone : (backToKw pos (keywordEach [⟨some "key", .Lambda params body scope lpos, kpos⟩] X.env)).any (·.1.isNone) = false := by rfl)
    (hks : (backToKw pos (keywordEach [⟨some "key", .Lambda params body scope lpos, kpos⟩] X.env)).filterMap (·.1) = [Str.ofString "key"] := by rfl) :
    EvL T X (.Call (.Name "sorted" p) [a] [⟨some "key", .Lambda params body scope lpos, kpos⟩] pos) σ H ((bs.mergeSort (dataLe false key)).map enc) := fun H1 l Q q => by
  have hrA : Room (k + 1) X.A.in1.in1 := (hr.in1).in1
  intro pins s I
  refine wpAny_Call_Name_kw (ld_blt I hg hm boot_sorted ?_ (by decide) (by decide))
  have ha : wA X [a] σ H1 fun vs H2 => ∃ r, vs = [.ref r] ∧ Le T H1 H2 ∧ ColM T X H2 r (bs.map enc) := w_pa (pa_cons pe_w pa_nil hst) (hsrc H1 l _ fun r H2 l2 c => ⟨r, rfl, l2, c⟩)
  refine PyProof.Rows.callWith_kw (thn (ha pos pins s I) fun us s1 ⟨vs, H2, I2, r2, r, ev, l2, col⟩ => ?_) he hpl hall hnone
  subst ev
  have hk : PK X [⟨some "key", .Lambda params body scope lpos, kpos⟩] (tCons (tLamM T X params body scope) tNil) := pk_cons (pe_lam L hdef hfree) pk_nil
  have hT2 : Tabs T H2 := l2.tb (l.tb hTb)
  refine thn (hk.run pos pins s1 σ H2 (fun zs H3 => ∃ f c', zs = [.ref f] ∧ Le T H2 H3 ∧ H3 f = some (LamO f (lamF X params scope c') body) ∧ H3 c' = some (CodeO c' (lamQ X))) I2 ⟨hT2, fun f c' H3 l3 _ hf hc => ⟨f, c', rfl, l3, hf, hc⟩⟩) fun ws s2 ⟨zs, H3, I3, r3, f, c', ez, l3, hf, hc⟩ => ?_
  subst ez
  rw [hks]
  obtain rfl := Vals.ref1 r2
  obtain rfl := Vals.ref1 r3
  obtain ⟨us', xs, rv, hd, cl⟩ := col H3 l3 pins σ s2 I3
  refine sort_key (T := T) (s := s2) I3 hr.hd cl rv hd hal hsk (Nat.le_trans hL (by rw [sizeLine_eq]; decide)) (fun b hb => ?_) (fun v b hb hv => ?_) fun p ys H4 hp l4 hp4 hd4 => ?_
  · have h1 := hu b hb
    have h2 := hr.un
    omega
  · exact turn_lam Sx rfl hbi hrA (fun s H e => (e.in1).in1) hfree hfr hjs hf hc hv fun y H' Xl il l' dy => hbody b y H' Xl hb il ((l.trans (l2.trans l3)).trans l') dy
  · exact q p ys H4 (l2.fr _ (l3.fr _ hp)) (l2.trans (l3.trans l4)) hp4 hd4
end
end RF
set_option Elab.async false
set_option linter.all false
set_option maxRecDepth 100000
set_option maxHeartbeats 4000000
/-! dicts with tuples of ints and texts as keys; instances -/
namespace RF
open PySem PySem.Spec L2 LamX
open PyProof.Rows hiding St

section
variable {T : List (Addr × Str)} {X : Cx} {e a b c o i : Expr} {es : List Expr} {σ : St} {H H' : Hp} {δ : List Sl} {s s' : Sl} {d d' : PyData} {pos pos' p p2 apos : Pos} {rest : List Stmt} {D : Ends} {q : Addr} {kvs : List (List Key × V)} {k : List Key} {v : V}
theorem EvD.ofV (h : Ev T X e σ H (.v v)) (hd : Dt H v d) : EvD T X e σ H d := fun H1 l Q q => h H1 l Q fun v' H2 l2 h2 => by
  have e : some v' = some v := h2
  cases e
  exact q _ H2 l2 ⟨_, rfl, hd.mono (l.trans l2).tk⟩
theorem tabs_dT {u : HO} (h : H q = some (.dT kvs)) (t : Tabs T H) : Tabs T (upd H q u) := tabs_upd h (fun _ z => by cases z) (fun _ _ z => by unfold CodeO at z; cases z) t
theorem tk_dT {u : HO} (h : H q = some (.dT kvs)) : Tk H (upd H q u) := fun b ys e => by
  rw [upd_ne (fun z => by rw [z, h] at e; cases e)]
  exact e
theorem Le.mutD {u : HO} (l : Le T H H') (h : H q = none) (hd : H' q = some (.dT kvs)) : Le T H (upd H' q u) := l.mut h (tabs_dT hd)
/-- a new dict -/
def EvDn (T : List (Addr × Str)) (X : Cx) (e : Expr) (σ : St) (H : Hp) (kvs : List (List Key × V)) : Prop := ∀ H1, Le T H H1 → ∀ Q : VK, (∀ p H2, H1 p = none → Le T H1 H2 → H2 p = some (.dT kvs) → Q (.ref p) H2) → wE X e σ H1 Q
theorem ev_dnew : EvDn T X (.Dict [] [] pos) σ H [] := fun H1 l Q q => w_pe pe_dnewT fun p hp => q p _ hp (.new hp) upd_same
/-- name = {} -/
theorem s_setDn (c : Fx X) (i : Nat) (g : Sg H σ δ) {x : Str} {pos' : Pos} (h : EvDn T X e σ H kvs) (k : ∀ p σ' H', H p = none → Le T H H' → H' p = some (.dT kvs) → Sg H' σ' (δ.set i (.v (.ref p))) → wSs X rest D σ' H') (hi : X.N[i]? = some x := by rfl)
    (hx : Loc X.env.scope x := by first | exact Or.inl rfl | exact Or.inr rfl) (hs : swapsWith e (some (.Name x pos')) pos.line X.env = pure false := by rfl) (hf : X.fn x = true ∨ X.env.scope.names.lookup x = some .local := by first | exact .inl rfl | exact .inr rfl) :
    wSs X (.Assign [.Name x pos'] e pos :: rest) D σ H := by
  refine s_cons (w_ps (ps_set c.nd hi hx pe_w hs hf) ?_)
  exact h H (.refl H) _ fun p H2 hp l h2 => k p _ H2 hp l h2 ((g.mono l.tk).set (s := .v (.ref p)) rfl i)
/-- d[i] -/
theorem ev_dget (hu : X.A.units + 1 < cLine) (ho : Ev T X o σ H (.v (.ref q))) (hq : H q = some (.dT kvs)) (hi : EvD T X i σ H (keyD k)) (hv : valV kvs k = some v) (hs : NoSl i := by exact fun _ _ => rfl) : Ev T X (.Subscript o i pos) σ H (.v v) := fun H1 l Q q' => by
  refine w_pe (pe_dget hu pe_w pe_w hs) (ho H1 l _ fun x H2 l2 h2 => hi H2 (l.trans l2) _ fun y H3 l3 h3 => ?_)
  have e : some x = some (V.ref q) := h2
  cases e
  obtain ⟨_, e, h3⟩ := h3
  cases e
  obtain ⟨b, rfl, hb⟩ := key_at h3
  refine ⟨q, v, rfl, ?_, q' v H3 (l2.trans l3) rfl⟩
  rw [← hv]
  exact DGet.t (((l.trans l2).trans l3).dct hq) hb
theorem eb_din (hu : X.A.units + 1 < cLine) (hi : EvD T X i σ H (keyD k)) (ho : Ev T X o σ H (.v (.ref q))) (hq : H q = some (.dT kvs)) (hm : behindInMarks .In o = false := by with_unfolding_all rfl) : EB T X (.Compare i [.In] [o] pos) σ H (valV kvs k).isSome := by
  have key : ∀ H1 (R : VK), Le T H H1 → (∀ H2, Le T H1 H2 → R (.bl (valV kvs k).isSome) H2) → tDIn (wE X i) (wE X o) σ H1 R := fun H1 R l q' =>
    hi H1 l _ fun y H2 l2 h2 => ho H2 (l.trans l2) _ fun x H3 l3 h3 => by
      have e : some x = some (V.ref q) := h3
      cases e
      obtain ⟨_, e, h2⟩ := h2
      cases e
      obtain ⟨b, rfl, hb⟩ := key_at (h2.mono l3.tk)
      exact ⟨q, _, rfl, DGet.t (((l.trans l2).trans l3).dct hq) hb, q' H3 (l2.trans l3)⟩
  exact ⟨fun H1 l Q q' => w_pe (pe_cmp (pc_din hu pe_w pe_w) hm) (key H1 Q l fun H2 l2 => q' _ H2 l2 ⟨_, rfl, .bl _⟩), fun H1 l Q q' => w_pt (pt_cmp (pc_din hu pe_w pe_w) hm) (key H1 _ l fun H2 l2 => ⟨_, rfl, q' H2 l2⟩)⟩
theorem eb_dnotin (hu : X.A.units + 1 < cLine) (hi : EvD T X i σ H (keyD k)) (ho : Ev T X o σ H (.v (.ref q))) (hq : H q = some (.dT kvs)) (hm : behindInMarks .NotIn o = false := by with_unfolding_all rfl) : EB T X (.Compare i [.NotIn] [o] pos) σ H (!(valV kvs k).isSome) := by
  have key : ∀ H1 (R : VK), Le T H H1 → (∀ H2, Le T H1 H2 → R (.bl (!(valV kvs k).isSome)) H2) → tDNotIn (wE X i) (wE X o) σ H1 R := fun H1 R l q' =>
    hi H1 l _ fun y H2 l2 h2 => ho H2 (l.trans l2) _ fun x H3 l3 h3 => by
      have e : some x = some (V.ref q) := h3
      cases e
      obtain ⟨_, e, h2⟩ := h2
      cases e
      obtain ⟨b, rfl, hb⟩ := key_at (h2.mono l3.tk)
      exact ⟨q, _, rfl, DGet.t (((l.trans l2).trans l3).dct hq) hb, q' H3 (l2.trans l3)⟩
  exact ⟨fun H1 l Q q' => w_pe (pe_cmp (pc_dnotin hu pe_w pe_w) hm) (key H1 Q l fun H2 l2 => q' _ H2 l2 ⟨_, rfl, .bl _⟩), fun H1 l Q q' => w_pt (pt_cmp (pc_dnotin hu pe_w pe_w) hm) (key H1 _ l fun H2 l2 => ⟨_, rfl, q' H2 l2⟩)⟩
/-- d[i] = e -/
theorem s_dput (hu : X.A.units + 1 < cLine) (he : Ev T X e σ H s) (ho : Ev T X o σ H (.v (.ref q))) (hq : H q = some (.dT kvs)) (hi : EvD T X i σ H (keyD k)) (hl : kvs.length < 100000)
    (kk : ∀ v H', Le T H H' → SlOk H' (some v) s → wSs X rest D σ (upd H' q (.dT (putK kvs k v)))) (hs : swapsWith e (some (.Subscript o i pos')) pos.line X.env = pure false := by rfl) :
    wSs X (.Assign [.Subscript o i pos'] e pos :: rest) D σ H := by
  refine s_cons (w_ps (ps_dput hu pe_w pe_w pe_w hs) ?_)
  refine he H (.refl H) _ fun v H1 l1 h1 => ho H1 l1 _ fun x H2 l2 h2 => hi H2 (l1.trans l2) _ fun y H3 l3 h3 => ?_
  have e : some x = some (V.ref q) := h2
  cases e
  obtain ⟨_, e, h3⟩ := h3
  cases e
  obtain ⟨b, rfl, hb⟩ := key_at h3
  exact ⟨q, _, rfl, DPut.t (((l1.trans l2).trans l3).dct hq) hb (Nat.lt_of_lt_of_le hl (by rw [sizeLine_eq]; decide)), kk v H3 ((l1.trans l2).trans l3) (h1.mono (l2.trans l3).tk)⟩

/-! ### instances -/
/-- e.f, an attribute of the instance at q -/
theorem ev_fld {C dx : Addr} {fs : List (Str × V)} {f : Str} (hc : Cls X.K C) (hn : NoAttr X.K C f) (he : Ev T X e σ H (.v (.ref q))) (hq : H q = some (.ins C dx fs)) (hv : fs.lookup f = some v := by rfl) (hb : attributeBase e f X.env (eval e X.env) = eval e X.env := by rfl) : Ev T X (.Attribute e f pos) σ H (.v v) := fun H1 l Q q' => by
  refine w_pe (pe_fld pe_w hb) (he H1 l _ fun x H2 l2 h2 => ?_)
  have e : some x = some (V.ref q) := h2
  cases e
  exact ⟨q, C, dx, fs, v, rfl, (l.trans l2).ins hq, hc, hn, hv, q' v H2 l2 rfl⟩
/-- o.f = e -/
theorem s_fld {C dx : Addr} {fs : List (Str × V)} {f : Str} (hc : Cls X.K C) (hn : NoAttr X.K C f) (he : Ev T X e σ H s) (ho : Ev T X o σ H (.v (.ref q))) (hq : H q = some (.ins C dx fs)) (hl : fs.length < 100)
    (kk : ∀ v H', Le T H H' → SlOk H' (some v) s → wSs X rest D σ (upd H' q (.ins C dx (putF f v fs)))) (hs : swapsWith e (some (.Attribute o f pos')) pos.line X.env = pure false := by rfl) :
    wSs X (.Assign [.Attribute o f pos'] e pos :: rest) D σ H := by
  refine s_cons (w_ps (ps_fld pe_w pe_w hs) ?_)
  refine he H (.refl H) _ fun v H1 l1 h1 => ho H1 l1 _ fun x H2 l2 h2 => ?_
  have e : some x = some (V.ref q) := h2
  cases e
  exact ⟨q, C, dx, fs, rfl, (l1.trans l2).ins hq, hc, hn, by omega, kk v H2 (l1.trans l2) (h1.mono l2.tk)⟩
/-- o.f = a new list, a new dict -/
theorem s_fldN {C dx : Addr} {fs : List (Str × V)} {f : Str} {ds : List PyData} (hc : Cls X.K C) (hn : NoAttr X.K C f) (he : EvL T X e σ H ds) (ho : Ev T X o σ H (.v (.ref q))) (hq : H q = some (.ins C dx fs)) (hl : fs.length < 100)
    (kk : ∀ p xs H', H p = none → Le T H H' → H' p = some (.lst xs) → DtL H' xs ds → wSs X rest D σ (upd H' q (.ins C dx (putF f (.ref p) fs)))) (hs : swapsWith e (some (.Attribute o f pos')) pos.line X.env = pure false := by rfl) :
    wSs X (.Assign [.Attribute o f pos'] e pos :: rest) D σ H := by
  refine s_cons (w_ps (ps_fld pe_w pe_w hs) ?_)
  refine he H (.refl H) _ fun p xs H1 hp l1 h1 hd => ho H1 l1 _ fun x H2 l2 h2 => ?_
  have e : some x = some (V.ref q) := h2
  cases e
  exact ⟨q, C, dx, fs, rfl, (l1.trans l2).ins hq, hc, hn, by omega, kk p xs H2 hp (l1.trans l2) (l2.lst h1) (hd.mono l2.tk)⟩
theorem s_fldD {C dx : Addr} {fs : List (Str × V)} {f : Str} (hc : Cls X.K C) (hn : NoAttr X.K C f) (he : EvDn T X e σ H kvs) (ho : Ev T X o σ H (.v (.ref q))) (hq : H q = some (.ins C dx fs)) (hl : fs.length < 100)
    (kk : ∀ p H', H p = none → Le T H H' → H' p = some (.dT kvs) → wSs X rest D σ (upd H' q (.ins C dx (putF f (.ref p) fs)))) (hs : swapsWith e (some (.Attribute o f pos')) pos.line X.env = pure false := by rfl) :
    wSs X (.Assign [.Attribute o f pos'] e pos :: rest) D σ H := by
  refine s_cons (w_ps (ps_fld pe_w pe_w hs) ?_)
  refine he H (.refl H) _ fun p H1 hp l1 h1 => ho H1 l1 _ fun x H2 l2 h2 => ?_
  have e : some x = some (V.ref q) := h2
  cases e
  exact ⟨q, C, dx, fs, rfl, (l1.trans l2).ins hq, hc, hn, by omega, kk p H2 hp (l1.trans l2) (l2.dct h1)⟩
/-- an expression whose value is dropped, whatever it does -/
theorem s_exprG (h : wE X e σ H fun _ H' => wSs X rest D σ H') (hs : swapsWith e none pos.line X.env = pure false := by rfl) : wSs X (.Expr e pos :: rest) D σ H := s_cons (w_ps (ps_expr pe_w hs) h)
theorem tk_ins {u : HO} {C dx : Addr} {fs : List (Str × V)} (h : H q = some (.ins C dx fs)) : Tk H (upd H q u) := fun b ys e => by
  rw [upd_ne (fun z => by rw [z, h] at e; cases e)]
  exact e
end

/-! ### methods and makers of the text's classes -/
structure MetC (P : Program) (w : World) (K : PySem.W.Frag) (mg : Str → Option Value) (base : Heap) (k : Nat) (C : Addr) (m : Str) (ps : List Str) (sp : Sp) : Prop where
  ex : ∃ (f : Addr) (fd : FuncData), FnOk P w K mg base CX0 k f fd ps sp ∧ Meth K C m f ∧ Binds K fd ps []
theorem MetC.mono {P : Program} {w : World} {K : PySem.W.Frag} {mg : Str → Option Value} {base : Heap} {j k : Nat} {C : Addr} {m : Str} {ps : List Str} {sp : Sp} (h : MetC P w K mg base j C m ps sp) (l : j ≤ k) : MetC P w K mg base k C m ps sp := by
  obtain ⟨f, fd, F, r⟩ := h.ex
  exact ⟨f, fd, F.mono l, r⟩
structure MakC (P : Program) (w : World) (K : PySem.W.Frag) (mg : Str → Option Value) (base : Heap) (k : Nat) (x : Str) (C : Addr) (ps : List Str) (sp : Sp) : Prop where
  ex : ∃ (f : Addr) (fd : FuncData), FnOk P w K mg base CX0 k f fd ps sp ∧ Mk K C f ∧ mg x = some (.ref C) ∧ Binds K fd ps []
theorem MakC.mono {P : Program} {w : World} {K : PySem.W.Frag} {mg : Str → Option Value} {base : Heap} {j k : Nat} {x : Str} {C : Addr} {ps : List Str} {sp : Sp} (h : MakC P w K mg base j x C ps sp) (l : j ≤ k) : MakC P w K mg base k x C ps sp := by
  obtain ⟨f, fd, F, r⟩ := h.ex
  exact ⟨f, fd, F.mono l, r⟩
section
variable {T : List (Addr × Str)} {X : Cx} {e o : Expr} {es : List Expr} {σ : St} {H : Hp} {ss : List Sl} {pos apos p : Pos} {q C dx : Addr} {fs : List (Str × V)} {m x : Str} {k : Nat} {ps : List Str} {sp : Sp} {Q : VK}
/-- o.m(e, ..) -/
theorem w_meth {pl : Sem Bool} (hc : Cls X.K C) (M : MetC X.prog X.w X.K X.mg X.base k C m ps sp) (hr : Room k X.A) (ho : Ev T X o σ H (.v (.ref q))) (hq : H q = some (.ins C dx fs)) (hm : fs.lookup m = none) (ha : EvA T X (e :: es) σ H ss)
    (hs : ∀ vs H', Le T H H' → SsOk H' vs ss → sp (.ref q :: vs) H' Q E0)
    (hst : starEach (e :: es) X.env = (false, eval e X.env) :: starEach es X.env := by rfl) (hpl : (backTo pos (starEach es X.env)).any (·.1) = false := by rfl)
    (ht : eval (.Call (.Attribute o m apos) (e :: es) [] pos) X.env = (do
      let ov ← eval o X.env
      standAt apos.atName
      let (f, first) ← holding [ov] (getMethod ov m pl)
      callWith pos f first (backTo pos (starEach (e :: es) X.env)) (backToKw pos (keywordEach [] X.env))) := by rfl) : wE X (.Call (.Attribute o m apos) (e :: es) [] pos) σ H Q := by
  obtain ⟨f, fd, F, hme, hb⟩ := M.ex
  refine w_pe (pe_meth pe_w hc hme F hr hb .nil pass0 pa_w hst hpl ht) (ho H (.refl H) _ fun v H1 l1 h1 => ?_)
  have e : some v = some (V.ref q) := h1
  cases e
  refine ⟨q, dx, fs, rfl, l1.ins hq, hm, ha H1 l1 _ fun vs H2 l2 h2 => ?_⟩
  rw [List.append_nil]
  exact hs vs H2 (l1.trans l2) h2
/-- o.m() -/
theorem w_meth0 {pl : Sem Bool} (hc : Cls X.K C) (M : MetC X.prog X.w X.K X.mg X.base k C m ps sp) (hr : Room k X.A) (ho : Ev T X o σ H (.v (.ref q))) (hq : H q = some (.ins C dx fs)) (hm : fs.lookup m = none) (hs : ∀ H', Le T H H' → sp [.ref q] H' Q E0)
    (ht : eval (.Call (.Attribute o m apos) [] [] pos) X.env = (do
      let ov ← eval o X.env
      standAt apos.atName
      let (f, first) ← holding [ov] (getMethod ov m pl)
      callWith pos f first (backTo pos (starEach [] X.env)) (backToKw pos (keywordEach [] X.env))) := by rfl) : wE X (.Call (.Attribute o m apos) [] [] pos) σ H Q := by
  obtain ⟨f, fd, F, hme, hb⟩ := M.ex
  refine w_pe (pe_meth0 pe_w hc hme F hr hb .nil pass0 ht) (ho H (.refl H) _ fun v H1 l1 h1 => ?_)
  have e : some v = some (V.ref q) := h1
  cases e
  exact ⟨q, dx, fs, rfl, l1.ins hq, hm, hs H1 l1⟩
/-- C(e, ..) -/
theorem w_make (M : MakC X.prog X.w X.K X.mg X.base k x C ps sp) (hr : Room (k + 1) X.A) (ha : EvA T X (e :: es) σ H ss)
    (hs : ∀ vs H' y dx, Le T H H' → SsOk H' vs ss → H' y = none → H' dx = none → dx ≠ y → sp (.ref y :: vs) (upd (upd H' dx (.own y)) y (.ins C dx [])) (fun v H2 => v = .non ∧ Q (.ref y) H2) E0) (hg : Gl X x := by rfl)
    (hdb : (x == ("__debug__" : Str)) = false := by decide) (he : starEach (e :: es) X.env = (false, eval e X.env) :: starEach es X.env := by rfl) (hpl : (backTo pos (starEach es X.env)).any (·.1) = false := by rfl) : wE X (.Call (.Name x p) (e :: es) [] pos) σ H Q := by
  obtain ⟨f, fd, F, hmk, hm, hb⟩ := M.ex
  refine w_pe (pe_make hmk F hr hg hm hb .nil pass0 pa_w hdb he hpl) (ha H (.refl H) _ fun vs H1 l1 h1 y dx hy hdx hne => ?_)
  rw [List.append_nil]
  exact hs vs H1 y dx l1 h1 hy hdx hne
end
end RF
set_option Elab.async false
set_option linter.all false
set_option maxRecDepth 100000
set_option maxHeartbeats 4000000
/-! exits_from: a dict with (text, bool) keys -/
namespace RF
open PySem PySem.Spec L2 LamX
open PyProof.Rows hiding St
open PySem.W (AllAlike Sortable dataLe alike alikeAll)

abbrev EK := Str × Bool
abbrev ekD (k : EK) : PyData := .tuple [.str k.1, .bool k.2]
def nkE (k : EK) : NestedKey := .tup [.text k.1, .num (if k.2 = true then 1 else 0)]
theorem nkE_inj {a b : EK} (h : nkE a = nkE b) : a = b := by
  obtain ⟨x, p⟩ := a
  obtain ⟨y, q⟩ := b
  unfold nkE at h
  injection h with h
  injection h with h1 h2
  injection h1 with h1
  injection h2 with h2
  injection h2 with h2
  subst h1
  cases p <;> cases q <;> first | rfl | simp at h2
/-- the dict at d with these entries -/
def DkE (P : Program) (w : World) (d : Addr) (es : List (NestedKey × Addr × Value)) : HO := .ext fun h => (d == sysModules) = false ∧ ∃ o ar ep, h.get? d = some o ∧ o.ExactDict ∧ o.data = .dict ar ep ∧ ar.toList = es.map (entryOfKey (nestedKind P w)) ∧ (es.map (·.1)).Nodup
abbrev ExRow (H : Hp) : List (EK × Nat) → List (NestedKey × Addr × Value) → Prop := Paired fun p q => q.1 = nkE p.1 ∧ Dt H (.ref q.2.1) (ekD p.1) ∧ ∃ t, q.2.2 = Value.int (p.2 : Int) t
def ExDk (P : Program) (w : World) (H : Hp) (d : Addr) (L : List (EK × Nat)) : Prop := ∃ es, H d = some (DkE P w d es) ∧ ExRow H L es
section
variable {P : Program} {w : World} {H H' : Hp} {h : Heap} {d : Addr} {es : List (NestedKey × Addr × Value)} {L : List (EK × Nat)} {T : List (Addr × Str)}
theorem dkE_ntbl (ps : Array Value) : DkE P w d es ≠ .tbl ps := fun z => by
  unfold DkE at z
  cases z
theorem ExRow.mono (k : Tk H H') (r : ExRow H L es) : ExRow H' L es := Paired.mapP r fun _ _ z => ⟨z.1, z.2.1.mono k, z.2.2⟩
theorem ExDk.le (l : Le T H H') (x : ExDk P w H d L) : ExDk P w H' d L := by
  obtain ⟨es, h1, h2⟩ := x
  exact ⟨es, l.ex _ _ h1 fun _ => dkE_ntbl _, h2.mono l.tk⟩
theorem nk_is {v : V} {b : Addr} {k : EK} (ok : HOk P w H h) (x : Dt H (.ref b) (ekD k)) : (nestedKind P w).is h (nkE k) b := by
  obtain ⟨a, xs, e, ha, hd⟩ := x.inv_tup
  cases e
  obtain ⟨_, its, rv, o, ho, hc, n, hdat⟩ := ok _ _ ha
  cases hd with
  | cons x1 t =>
    cases t with
    | cons x2 t =>
      cases t
      obtain rfl := x1.inv_str
      obtain rfl := x2.inv_bl
      cases rv with
      | cons r1 t =>
        cases t with
        | cons r2 t =>
          cases t
          obtain ⟨t1, rfl⟩ := r1
          cases r2
          exact ⟨.tup ho hc hdat (.cons (.text _ _) (.cons (.bool rfl) .nil)), by simp [nkE, NestedKey.depth, NestedKey.depthAll]⟩
theorem dkE_at (ok : HOk P w H h) (x : H d = some (DkE P w d es)) (r : ExRow H L es) : (d == sysModules) = false ∧ h.DictOfH (nestedKind P w) d es := by
  obtain ⟨⟨hs, o, ar, ep, ho, hx, hd, he, hn⟩, _, _⟩ := ok _ _ x
  refine ⟨hs, o, ar, ep, ho, hx, hd, he, fun q hq => ?_, hn⟩
  have all : ∀ {L : List (EK × Nat)} {es : List (NestedKey × Addr × Value)}, ExRow H L es → ∀ q ∈ es, (nestedKind P w).is h q.1 q.2.1 := by
    intro L es r
    induction r with
    | nil => intro q hq; exact nomatch hq
    | @cons p q ps qs hpq t ih =>
      intro q' hq'
      rcases List.mem_cons.mp hq' with e | hq'
      · subst e
        rw [hpq.1]
        exact nk_is (v := .non) ok hpq.2.1
      · exact ih q' hq'
  exact all r q hq
theorem dkE_new {a : Addr} {h' : Heap} {es' : List (NestedKey × Addr × Value)} (hs : (d == sysModules) = false) (x : h'.DictOfH (nestedKind P w) d es') : ObjOk P w H' h' d (DkE P w d es') := by
  obtain ⟨o, ar, ep, ho, hx, hd, he, _, hn⟩ := x
  exact ⟨⟨hs, o, ar, ep, ho, hx, hd, he, hn⟩, ⟨o, ho⟩, fun _ _ ⟨a1, o, ar, ep, ho, r⟩ st => ⟨a1, o, ar, ep, st _ ho, r⟩⟩
/-- the tables lean on records alone -/
theorem tabs_of {p : Addr} {o : Obj} {u : HO} (ok : HOk P w H h) (e : h.get? p = some o) (hd : ∀ vs, o.data ≠ .fields vs) (t : Tabs T H) : Tabs T (upd H p u) := fun x hx => by
  obtain ⟨ps, h1, h2, h3⟩ := t x hx
  have np : x.1 ≠ p := fun z => by
    rw [z] at h1
    have q : h.get? p = some { cls := .none, data := .fields ps } := ok p _ h1
    rw [e] at q
    cases q
    exact hd _ rfl
  refine ⟨ps, by rw [upd_ne np]; exact h1, h2, fun pos cv hc => ?_⟩
  obtain ⟨c, e1, e2⟩ := h3 pos cv hc
  refine ⟨c, e1, ?_⟩
  rw [upd_ne fun z => ?_]
  · exact e2
  · rw [z] at e2
    obtain ⟨⟨oc, ws, tt, q1, q2, _⟩, _, _⟩ := ok p _ e2
    rw [e] at q1
    cases q1
    exact hd _ q2
def exPut (L : List (EK × Nat)) (k : EK) (a : Nat) : List (EK × Nat) := if (L.any fun p => decide (p.1 = k)) = true then L else L ++ [(k, a)]
theorem exRow_at {k : EK} : ∀ {L : List (EK × Nat)} {es : List (NestedKey × Addr × Value)}, ExRow H L es → (atKey es (nkE k)).isSome = L.any fun p => decide (p.1 = k)
  | _, _, .nil => rfl
  | _, _, .cons (a := p) (b := q) hpq t => by
    have ih := exRow_at (k := k) t
    have e1 : decide (q.1 = nkE k) = decide (p.1 = k) := by
      rw [hpq.1]
      by_cases z : p.1 = k
      · simp [z]
      · have z2 : ¬ nkE p.1 = nkE k := fun y => z (nkE_inj y)
        simp [z, z2]
    unfold atKey at ih ⊢
    rw [List.find?_cons, List.any_cons]
    by_cases z : p.1 = k
    · rw [e1]; simp [z]
    · rw [e1]; simp only [z, decide_false, Bool.false_or]; exact ih
end
section
variable {X : Cx} {T : List (Addr × Str)} {e1 e2 o : Expr} {σ : St} {H : Hp} {δ : List Sl} {pos apos cpos : Pos} {q : Addr} {k : EK} {a : Nat} {L : List (EK × Nat)} {rest : List Stmt} {D : Ends}
/-- return of a new list -/
theorem s_retNew {e : Expr} {ds : List PyData} (h : EvL T X e σ H ds) (k : ∀ p xs H', H p = none → Le T H H' → H' p = some (.lst xs) → DtL H' xs ds → D.rt (.ref p) H') : wSs X (.Return (some e) pos :: rest) D σ H :=
  s_cons (w_ps (ps_ret pe_w) (h H (.refl H) _ k))
/-- {}, for such keys -/
theorem w_newE {Q : VK} (hq : ∀ p H', H p = none → Le T H H' → ExDk X.prog X.w H' p [] → Q (.ref p) H') : wE X (.Dict [] [] pos) σ H Q := fun pins s I => by
  have hn : H s.heap.objs.size = none := I.hok.fresh (Nat.le_refl _)
  refine wpAny_Dict_empty ⟨.ref s.heap.objs.size, upd H s.heap.objs.size (DkE X.prog X.w s.heap.objs.size []), I.laid (t' := s.toks) (fun _ _ q => Heap.get?_push_of_some _ q) (Nat.le_refl _) (dkE_new (a := 0) ?_ (Heap.DictOfH.new _)), rfl, hq _ _ hn (.new hn) ⟨[], upd_same, .nil⟩⟩
  exact beq_eq_false_iff_ne.mpr (Ne.symm (Nat.ne_of_lt I.big))
theorem w_setd (hu : X.A.units + 20 < cLine) (ho : Ev T X o σ H (.v (.ref q))) (hq : ExDk X.prog X.w H q L) (hl : L.length < 10000) (h1 : EvD T X e1 σ H (ekD k)) (h2 : EvD T X e2 σ H (.int (a : Int))) {Q : VK}
    (kk : ∀ v H', LeX T (At q) H H' → ExDk X.prog X.w H' q (exPut L k a) → Q v H') (m : M2 X o "setdefault" apos e1 e2 cpos := by exact ⟨rfl, rfl, rfl, rfl⟩) :
    wE X (.Call (.Attribute o "setdefault" apos) [e1, e2] [] cpos) σ H Q := fun pins s I => by
  refine wpAny_Call_method m.base m.few m.line PySem.F.plainAttrs_dict PySem.F.slot_dict_setdefault PySem.F.type_dict_setdefault (thn (ho H (.refl H) (fun v H1 => v = .ref q ∧ Le T H H1) (fun v H2 l h => ⟨Option.some.inj (show some v = some (V.ref q) from h), l⟩) pins s I) fun u s1 ⟨x, H1, I1, rx, ex, l1⟩ => ?_)
  subst ex
  obtain rfl : u = Value.ref q := rx
  obtain ⟨es, g1, r1⟩ := hq.le l1
  obtain ⟨hs1, D1⟩ := dkE_at I1.hok g1 r1
  refine ⟨D1.typeIs, fun b e => ?_, ?_⟩
  · cases e
    obtain ⟨ob, _, _, hb, hx, _⟩ := D1
    exact ⟨ob, hb, hx.2.1⟩
  rw [m.trees]
  refine Calls.callWith_builtin rfl (Calls.evalArgs_plain (Calls.spliced_cons (thn (h1 H1 l1 (fun v H2 => Le T H1 H2 ∧ Dt H2 v (ekD k)) (fun v H2 l h => by
    obtain ⟨_, e, h⟩ := h
    cases e
    exact ⟨l, h⟩) pins s1 I1) fun iv s2 ⟨y, H2, I2, ry, l2, dy⟩ =>
    Calls.spliced_cons (thn (h2 H2 (l1.trans l2) (fun v H3 => Le T H2 H3 ∧ Dt H3 v (.int (a : Int))) (fun v H3 l h => by
      obtain ⟨_, e, h⟩ := h
      cases e
      exact ⟨l, h⟩) pins s2 I2) fun fv s3 ⟨z, H3, I3, rz, l3, dz⟩ => Calls.spliced_nil ?_))))
  obtain rfl := dz.inv_int
  obtain ⟨t3, rfl⟩ := rz
  have dy3 := dy.mono l3.tk
  obtain ⟨b, xs, rfl, hb, _⟩ := dy3.inv_tup
  cases ry
  have l13 : Le T H H3 := (l1.trans l2).trans l3
  have g3 : H3 q = some (DkE X.prog X.w q es) := (l2.trans l3).ex _ _ g1 fun _ => dkE_ntbl _
  have r3 := r1.mono (l2.trans l3).tk
  obtain ⟨hs3, D3⟩ := dkE_at I3.hok g3 r3
  have hlen : es.length = L.length := (Paired.length r3).symm
  have hat := exRow_at (k := k) r3
  refine call_setdefault_heap (knd := nestedKind X.prog X.w) (hsz := by rw [hlen, sizeLine_eq]; omega) (by show X.A.units + 1 + 8 < cLine; omega) (nk_is (v := .non) I3.hok dy3) hs3 D3 (fun p hp => ?_) fun hn h' D4 sb => ?_
  · -- the key is there
    obtain ⟨p1, p2⟩ := p
    rw [hp] at hat
    have e4 : exPut L k a = L := by
      unfold exPut
      rw [← hat]
      rfl
    have hm : (nkE k, p1, p2) ∈ es ∨ True := .inr True.intro
    obtain ⟨y, hy⟩ : ∃ y : Int, ∃ t, p2 = Value.int y t := by
      have all : ∀ {L : List (EK × Nat)} {es : List (NestedKey × Addr × Value)}, ExRow H3 L es → ∀ q ∈ es, ∃ y : Int, ∃ t, q.2.2 = Value.int y t := by
        intro L es r
        induction r with
        | nil => intro q hq; exact nomatch hq
        | @cons p q ps qs hpq t ih =>
          intro q' hq'
          rcases List.mem_cons.mp hq' with e | hq'
          · subst e
            exact ⟨_, hpq.2.2⟩
          · exact ih q' hq'
      obtain ⟨z, hz, e⟩ := Option.map_eq_some_iff.mp hp
      obtain ⟨y, t, hy⟩ := all r3 z (List.mem_of_find?_eq_some hz)
      exact ⟨y, t, by rw [← hy, e]⟩
    obtain ⟨t, rfl⟩ := hy
    exact ⟨.int y, H3, I3.tok _, ⟨t, rfl⟩, kk _ _ (.of l13) (by rw [e4]; exact ⟨es, g3, r3⟩)⟩
  · -- it is new
    rw [hn] at hat
    have e4 : exPut L k a = L ++ [(k, a)] := by
      unfold exPut
      rw [← hat]
      rfl
    rw [storedH_new hn] at D4
    obtain ⟨o3, _, _, ho3, _, hd3, _⟩ := D3
    have ntup : ∀ b ys, H3 b = some (.tup ys) → b ≠ q := fun b ys e z => by
      rw [z, g3] at e
      unfold DkE at e
      cases e
    have tk3 : Tk H3 (upd H3 q (DkE X.prog X.w q (es ++ [(nkE k, b, Value.int (a : Int) t3)]))) := fun b ys e => by
      rw [upd_ne (ntup b ys e)]
      exact e
    have J := I3.write (x := q) (e := q) (o := DkE X.prog X.w q (es ++ [(nkE k, b, Value.int (a : Int) t3)])) (t' := s3.toks + (nestedKind X.prog X.w).draws (nkE k)) (h' := h') (by rw [g3]; exact True.intro) (.inl rfl) (fun b u hb e => (sb.2 b hb).trans e)
      (by obtain ⟨o, _, _, ho, _⟩ := D4; exact ⟨o, ho⟩) (dkE_new (a := 0) hs3 D4)
    refine ⟨.int a, _, J, ⟨t3, rfl⟩, kk _ _ ?_ (by rw [e4]; exact ⟨_, upd_same, Paired.snoc (r3.mono tk3) ⟨rfl, dy3.mono tk3, t3, rfl⟩⟩)⟩
    refine ⟨fun b o hb e nt => ?_, fun t => tabs_of I3.hok ho3 (fun vs z => by rw [hd3] at z; cases z) (l13.tb t), fun b e => ?_⟩
    · rw [upd_ne (show b ≠ q from hb)]
      exact l13.ex b o e nt
    · exact l13.fr b (NdefX.upd_none e)
/-- d.values() -/
def ValO (r d : Addr) : HO := .ext fun h => h.IsValuesView r d
theorem ec_vals (ho : Ev T X o σ H (.v (.ref q))) (hq : ExDk X.prog X.w H q L) (hl : L.length < 10000)
    (hbase : attributeBase o "values" X.env (eval o X.env) = eval o X.env := by rfl) (hline : (apos.endLine == cpos.line) = true := by rfl) :
    EvC T X (.Call (.Attribute o "values" apos) [] [] cpos) σ H (L.map fun p => .int (p.2 : Int)) := fun H1 l Q k pins s I => by
  refine wpAny_Call_method (T := "dict") (id := "dict.values") hbase rfl hline F.plainAttrs_dict F.slot_dict_values F.type_dict_values (thn (ho H1 l (fun v H2 => v = .ref q ∧ Le T H1 H2) (fun v H2 l h => ⟨Option.some.inj (show some v = some (V.ref q) from h), l⟩) pins s I) fun u s1 ⟨x, H2, I2, rx, ex, l2⟩ => ?_)
  subst ex
  obtain rfl : u = Value.ref q := rx
  obtain ⟨es, g1, r1⟩ := hq.le (l.trans l2)
  obtain ⟨hs1, D1⟩ := dkE_at I2.hok g1 r1
  refine ⟨D1.typeIs, fun b e => ?_, ?_⟩
  · cases e
    obtain ⟨ob, _, _, hb, hx, _⟩ := D1
    exact ⟨ob, hb, hx.2.1⟩
  have hn : H2 s1.heap.objs.size = none := I2.hok.fresh (Nat.le_refl _)
  have gv : (s1.heap.push { cls := .type "dict_values", data := .fields #[.ref q] }).get? s1.heap.objs.size = some { cls := .type "dict_values", data := .fields #[.ref q] } := Heap.get?_push_size _ rfl
  have J := I2.laid (a := s1.heap.objs.size) (o := ValO s1.heap.objs.size q) (t' := s1.toks) (h' := s1.heap.push { cls := .type "dict_values", data := .fields #[.ref q] }) (fun b u e => Heap.get?_push_of_some _ e) (Nat.le_refl _)
    ⟨⟨_, gv, rfl, rfl⟩, ⟨_, gv⟩, fun _ _ ⟨o, e, r⟩ st => ⟨o, st _ e, r⟩⟩
  obtain ⟨ar0, ep0, hr0, _⟩ := D1.raw
  show wpAny _ _ (callWith cpos (.builtin "dict.values") [.ref q] [] []) _ X.xe s1
  refine method_meetsIn F.slot_dict_values F.entry_dict_values rfl (PySem.evalArgs_none ⟨rfl, hr0.typeIs, F.args_dict_values_1 _, _, meets_dict_values_raw q hs1, ⟨ar0, ep0, hr0⟩, ⟨.ref s1.heap.objs.size, _, J, rfl, k _ _ (l2.trans (.new hn)) fun H' l' pins' σ' s' I' => ?_⟩⟩)
  have gq : H' q = some (DkE X.prog X.w q es) := l'.ex _ _ (by rw [upd_ne (ne_of_none g1 hn)]; exact g1) fun _ => dkE_ntbl _
  have rq : ExRow H' L es := r1.mono ((Le.new (T := T) (o := ValO s1.heap.objs.size q) hn).trans l').tk
  have gr : H' s1.heap.objs.size = some (ValO s1.heap.objs.size q) := l'.ex _ _ upd_same fun _ z => by unfold ValO at z; cases z
  obtain ⟨hs2, D2⟩ := dkE_at I'.hok gq rq
  obtain ⟨ar, ep, hr, hsz, hent⟩ := D2.raw
  have view : s'.heap.IsValuesView s1.heap.objs.size q := (I'.hok _ _ gr).1
  have hlen : es.length = L.length := (Paired.length rq).symm
  have vi : ∀ {L : List (EK × Nat)} {es : List (NestedKey × Addr × Value)}, ExRow H' L es → Vals (L.map fun p => V.int (p.2 : Int)) (es.map fun x => x.2.2) ∧ DtL H' (L.map fun p => V.int (p.2 : Int)) (L.map fun p => PyData.int (p.2 : Int)) := by
    intro L es r
    induction r with
    | nil => exact ⟨.nil, .nil⟩
    | @cons p q ps qs hpq t ih => exact ⟨.cons hpq.2.2 ih.1, .cons (.int _) ih.2⟩
  refine ⟨es.map fun x => x.2.2, _, (vi rq).1, (vi rq).2, fun A E R hh hR => ?_⟩
  refine PySem.W.kdu_collect (A := A) PySem.KdlSrc.rawValues hh ⟨view, hr⟩ (by rw [hsz, hlen, sizeLine_eq]; omega) fun h' tk acc hk hacc => ?_
  have e : acc.toList = es.map fun x => x.2.2 := by
    refine List.ext_getElem? fun i => ?_
    rw [Array.getElem?_toList, List.getElem?_map]
    by_cases hi : i < ar.size
    · obtain ⟨y, hy, _, h2, _⟩ := hent i hi
      have hi2 : i < acc.size := by rw [hacc.1]; exact hi
      obtain ⟨_, h3⟩ := hacc.2 i acc[i] (Array.getElem?_eq_getElem hi2)
      rw [Array.getElem?_eq_getElem hi2, hy, h3, h2]
      rfl
    · rw [Array.getElem?_eq_none (by rw [hacc.1]; omega), List.getElem?_eq_none (by omega)]
      rfl
  rw [e]
  exact hR h' tk hk
end

/-! ### exits_from -/
def exKey (i : Ins) : EK := (i.var?.getD Str.empty, i.isLd)
def exStep (r : List Ins) (L : List (EK × Nat)) (a : Nat) : List (EK × Nat) := match r[a]? with
  | some i => if i.acc = true then exPut L (exKey i) a else L
  | none => L
def exFold (r : List Ins) (e : Nat) : List (EK × Nat) := (List.range' e (r.length - e)).foldl (exStep r) []
def exitsM (r : List Ins) (e : Nat) : List Nat := ((exFold r e).map (·.2)).mergeSort (dataLe false encN)
theorem exPut_le (L : List (EK × Nat)) (k : EK) (a : Nat) : (exPut L k a).length ≤ L.length + 1 := by
  unfold exPut
  split
  · omega
  · rw [List.length_append]; exact Nat.le_refl _
theorem exStep_le (r : List Ins) (L : List (EK × Nat)) (a : Nat) : (exStep r L a).length ≤ L.length + 1 := by
  unfold exStep
  split
  · split
    · exact exPut_le _ _ _
    · omega
  · omega
theorem exFoldl_le (r : List Ins) : ∀ (as : List Nat) (L : List (EK × Nat)), (as.foldl (exStep r) L).length ≤ L.length + as.length
  | [], L => Nat.le_refl _
  | a :: as, L => by
    have h1 := exFoldl_le r as (exStep r L a)
    have h2 := exStep_le r L a
    rw [List.foldl_cons, List.length_cons]
    omega
section
variable {P : Program} {w : World} {K : PySem.W.Frag} {mg : Str → Option Value} {base : Heap} {T : List (Addr × Str)} {f : Addr} {fd : FuncData} {k : Nat}
def rExits : List PyData → List PyData → Prop := fun ds es => ∃ (r : List Ins) (e : Nat), RowOk r ∧ ds = [encRow r, .int e] ∧ e < 1000 ∧ es = (exitsM r e).map encN
abbrev nEx : List Str := ["instructions", "entry", "found", "at"]
theorem LeX.exd {W : Addr → Prop} {H H' : Hp} {d : Addr} {L : List (EK × Nat)} (l : LeX T W H H') (hw : ¬ W d) (ht : Tk H H') (x : ExDk P w H d L) : ExDk P w H' d L := by
  obtain ⟨es, h1, h2⟩ := x
  exact ⟨es, l.ex _ _ hw h1 fun _ => dkE_ntbl _, h2.mono ht⟩
theorem exd_tk {H H' : Hp} {q : Addr} {L : List (EK × Nat)} (x : ExDk P w H q L) (l : LeX T (At q) H H') : Tk H H' := l.tk fun b ys e z => by
  obtain ⟨es, h1, _⟩ := x
  rw [show b = q from e, h1] at z
  unfold DkE at z
  cases z
theorem alike_encN (L : List Nat) : AllAlike (L.map encN) := PySem.W.AllAlike.of fun b b' => by simp [alike]
theorem sortable_encN (L : List Nat) : Sortable (L.map encN) := PySem.W.Sortable.others (enc := encN) fun b => ⟨(fun z => by cases z), fun xs z => by cases z⟩
theorem ok_exits_from (M : Nm mg) (F : Fun K "exits_from" "exits_from" (topS 18) f fd) (C1 : Cal P w K mg base k "is_access_to" ["instruction"] (spR T 1 (rI Ins.acc))) : FnOk P w K mg base CX0 (k + 1) f fd ["instructions", "entry"] (spRL T 2 rExits) := by
  have S : FnScope nEx ["instructions", "entry"] (defScope (topS 18)) := ⟨rfl, rfl, rfl, by decide +kernel, rfl, by decide +kernel, by decide +kernel⟩
  refine fun_okW F S (fun _ _ _ _ h => spRL_len h) fun X cdv A outer s H vs Q E e c hr h => ?_
  subst e
  obtain ⟨ds, es, _, hd, ⟨r, en, hR, rfl, hen, rfl⟩, q⟩ := h
  have g : Sg H (L2.start nEx vs) [.d (encRow r), .d (.int en), .x, .x] := startN hd
  obtain ⟨t1, m1⟩ := M.load
  refine s_cons (w_ps (ps_set c.nd (i := 2) rfl (.inl rfl) pe_w rfl (.inl rfl)) (w_newE (T := T) fun q0 H1 hq0 l1 hx0 => ?_))
  have g1 : Sg H1 _ [.d (encRow r), .d (.int en), .v (.ref q0), .x] := (g.mono l1.tk).set (s := .v (.ref q0)) rfl 2
  have hlen : r.length ≤ 1000 := hR.1
  refine s_for (T := T) c (enc := encN) (L := List.range' en (r.length - en)) (ei_range2 (ea_cons (ev_v 1 g1 rfl) (ea_1 (ev_lenRow (ev_v 0 g1 rfl) M.len))) (by omega) (by omega) M.range)
    (fun Hs i σ' H' => LeX T (At q0) Hs H' ∧ Sg H' σ' [.d (encRow r), .d (.int en), .v (.ref q0), .x] ∧ ExDk P w Hs q0 [] ∧ ExDk P w H' q0 (((List.range' en (r.length - en)).take i).foldl (exStep r) []))
    (fun H2 l => ⟨.refl _, g1.mono l.tk, hx0.le l, by rw [List.take_zero]; exact hx0.le l⟩) (fun H2 i σ' H' l j => ⟨exd_tk j.2.2.1 j.1, fun _ _ z => z.elim⟩) (fun H2 i σ' H' H3 j l => ⟨j.1.trans (.of l), j.2.1.mono l.tk, j.2.2.1, j.2.2.2.le l⟩)
    (fun H2 i x v σ' H' l hx j dv => ?_) fun H2 σ' H' l j => ?_
  · obtain ⟨j1, j2, j3, j4⟩ := j
    have hxm := List.mem_of_getElem? hx
    rw [List.mem_range'_1] at hxm
    obtain ⟨ins, hins⟩ : ∃ z, r[x]? = some z := ⟨_, List.getElem?_eq_getElem (by omega)⟩
    have tk1 : ((List.range' en (r.length - en)).take (i + 1)).foldl (exStep r) [] = exStep r (((List.range' en (r.length - en)).take i).foldl (exStep r) []) x := by
      rw [List.take_add_one, hx, List.foldl_append]
      rfl
    have hLl : (((List.range' en (r.length - en)).take i).foldl (exStep r) []).length < 10000 := by
      have h1 := exFoldl_le r ((List.range' en (r.length - en)).take i) []
      have h2 : ((List.range' en (r.length - en)).take i).length ≤ r.length - en := by rw [List.length_take, List.length_range']; exact Nat.min_le_right _ _
      simp only [List.length_nil] at h1
      omega
    refine g_name (s := .d (.int (x : Int))) c 3 j2 ⟨_, rfl, dv⟩ fun σ3 g3 => ?_
    have g3' : Sg H' σ3 [.d (encRow r), .d (.int en), .v (.ref q0), .d (.int x)] := g3
    refine s_if0 (T := T) (k := ins.acc) (eb_val (ev_callR (ds := [encI ins]) C1 hr (ea_1 (ev_ix (ev_v 0 g3' rfl) (ev_v 3 g3' rfl) (atI_map hins))) ⟨ins, rfl, rfl⟩)) (fun h H4 l4 => ?_) fun h H4 l4 => s_nil ⟨j1.trans (.of l4), (g3'.mono l4.tk).forget 3, j3, ?_⟩
    · have g4 := g3'.mono l4.tk
      obtain ⟨y, hy⟩ := acc_var h
      refine s_exprG (w_setd (T := T) (k := exKey ins) (a := x) (by have := hr.un; omega) (ev_v 2 g4 rfl) (j4.le l4) hLl (EvD.to (ev_tup (ds := [.str y, .bool ins.isLd]) (ea_cons (ev_i1 hy (ev_ix (ev_v 0 g4 rfl) (ev_v 3 g4 rfl) (atI_map hins)) ev_int) (ea_1 (EB.v (EB.to (eb_eqS (ev_i0 (ev_ix (ev_v 0 g4 rfl) (ev_v 3 g4 rfl) (atI_map hins)) ev_int) (ev_gs m1)) (isLd_kind ins)))))) ?_) (ev_v 3 g4 rfl) fun v5 H5 l5 x5 => ?_)
      · unfold exKey
        rw [hy]
        rfl
      · refine s_nil (s_nil ⟨(j1.trans (.of l4)).trans l5, (g4.mono (exd_tk (j4.le l4) l5)).forget 3, j3, ?_⟩)
        rw [tk1]
        unfold exStep
        rw [hins]
        simp only [h, if_true]
        exact x5
    · rw [tk1]
      unfold exStep
      rw [hins]
      simp only [h, Bool.false_eq_true, if_false]
      exact j4.le l4
  · obtain ⟨j1, j2, j3, j4⟩ := j
    have tkl : (List.range' en (r.length - en)).take (List.range' en (r.length - en)).length = List.range' en (r.length - en) := List.take_length
    rw [tkl] at j4
    have hl2 : (exFold r en).length ≤ 1000 := by
      have h1 := exFoldl_le r (List.range' en (r.length - en)) []
      rw [List.length_range', List.length_nil] at h1
      unfold exFold
      omega
    have l0 : Le T H H' := j1.le (l1.trans l) fun b hb => by
      rw [show b = q0 from hb]
      exact hq0
    refine s_retNew (T := T) (ds := (exitsM r en).map encN) ?_ fun p xs H2 hp l2 hp2 hd2 => q p xs H2 (l0.fr p hp) (l0.trans l2) hp2 hd2
    refine EvL.to (ev_sorted (T := T) (enc := encN) (bs := (exFold r en).map fun p => p.2) ?_ (alike_encN _) (sortable_encN _) (by rw [List.length_map]; omega) hr (fun b _ => ?_) M.sorted) rfl
    · refine EvC.to (ec_vals (ev_v 2 j2 rfl) j4 (by show (exFold r en).length < 10000; omega)) ?_
      rw [List.map_map]
      rfl
    · simp [PyData.depth]
end
end RF
set_option Elab.async false
set_option linter.all false
set_option maxRecDepth 100000
set_option maxHeartbeats 4000000
/-! dicts from data to data; bits; class Ways -/
namespace RF
open PySem PySem.Spec L2 LamX
open PyProof.Rows hiding St
open PySem.W (AllAlike Sortable dataLe alike alikeAll)

section
variable {α β : Type} [DecidableEq α]
def look (L : List (α × β)) (a : α) : Option β := (L.find? fun p => decide (p.1 = a)).map (·.2)
def putA (L : List (α × β)) (a : α) (b : β) : List (α × β) := if (L.any fun p => decide (p.1 = a)) = true then L.map (fun p => if p.1 = a then (p.1, b) else p) else L ++ [(a, b)]
theorem look_nil (a : α) : look ([] : List (α × β)) a = none := rfl
theorem look_cons (p : α × β) (L : List (α × β)) (a : α) : look (p :: L) a = if p.1 = a then some p.2 else look L a := by
  unfold look
  rw [List.find?_cons]
  by_cases h : p.1 = a <;> simp [h]
theorem look_any (a : α) : ∀ L : List (α × β), (L.any fun p => decide (p.1 = a)) = (look L a).isSome
  | [] => rfl
  | p :: L => by
    rw [List.any_cons, look_cons, look_any a L]
    by_cases h : p.1 = a <;> simp [h]
theorem putA_le (L : List (α × β)) (a : α) (b : β) : (putA L a b).length ≤ L.length + 1 := by
  unfold putA
  split
  · rw [List.length_map]; omega
  · rw [List.length_append]; exact Nat.le_refl _
theorem look_map (a : α) (b : β) (c : α) : ∀ L : List (α × β), look (L.map fun p => if p.1 = a then (p.1, b) else p) c = if c = a then (look L c).map (fun _ => b) else look L c
  | [] => by simp [look_nil]
  | p :: L => by
    rw [List.map_cons, look_cons, look_cons, look_map a b c L]
    by_cases h : p.1 = a
    · rw [if_pos h]
      by_cases h2 : p.1 = c
      · have : c = a := h2.symm.trans h
        simp [h2, this]
      · have : ¬ c = a := fun z => h2 (h.trans z.symm)
        simp [h2, this]
    · rw [if_neg h]
      by_cases h2 : p.1 = c
      · have : ¬ c = a := fun z => h (h2.trans z)
        simp [h2, this]
      · simp [h2]
theorem look_app (L M : List (α × β)) (c : α) : look (L ++ M) c = (look L c).or (look M c) := by
  induction L with
  | nil => simp [look_nil]
  | cons p L ih =>
    rw [List.cons_append, look_cons, look_cons, ih]
    by_cases h : p.1 = c <;> simp [h]
theorem look_put (L : List (α × β)) (a : α) (b : β) (c : α) : look (putA L a b) c = if c = a then some b else look L c := by
  unfold putA
  rw [look_any]
  by_cases h : (look L a).isSome = true
  · rw [if_pos h, look_map]
    by_cases h2 : c = a
    · subst h2
      rw [if_pos rfl, if_pos rfl]
      obtain ⟨x, hx⟩ := Option.isSome_iff_exists.mp h
      rw [hx]
      rfl
    · rw [if_neg h2, if_neg h2]
  · rw [if_neg h, look_app, look_cons, look_nil]
    have hn : look L a = none := by simpa using h
    by_cases h2 : c = a
    · subst h2
      rw [hn]
      simp
    · have h3 : ¬ a = c := fun z => h2 z.symm
      simp [h2, h3]
theorem look_mem {L : List (α × β)} {a : α} {b : β} (h : look L a = some b) : (a, b) ∈ L := by
  obtain ⟨p, hp, e⟩ := Option.map_eq_some_iff.mp h
  have h1 := List.find?_some hp
  have h2 := List.mem_of_find?_eq_some hp
  simp only [decide_eq_true_eq] at h1
  obtain ⟨x, y⟩ := p
  simp only at h1 e
  subst h1 e
  exact h2
theorem look_none {L : List (α × β)} {a : α} (h : look L a = none) : ∀ p ∈ L, p.1 ≠ a := by
  intro p hp e
  have : (L.any fun p => decide (p.1 = a)) = true := List.any_eq_true.mpr ⟨p, hp, by simp [e]⟩
  rw [look_any, h] at this
  cases this
end
/-- the dict at d: keys and values are data -/
abbrev PRow {α β : Type} (H : Hp) (kf : α → List Key) (ef : β → PyData) : List (α × β) → List (List Key × V) → Prop := Paired fun p q => q.1 = kf p.1 ∧ Dt H q.2 (ef p.2)
def DkP {α β : Type} (H : Hp) (d : Addr) (kf : α → List Key) (ef : β → PyData) (L : List (α × β)) : Prop := ∃ kvs, H d = some (.dT kvs) ∧ PRow H kf ef L kvs
section
variable {α β : Type} [DecidableEq α] {H H' : Hp} {d : Addr} {kf : α → List Key} {ef : β → PyData} {L : List (α × β)} {T : List (Addr × Str)} {kvs : List (List Key × V)} {a : α} {b : β}
theorem PRow.mono (k : Tk H H') (r : PRow H kf ef L kvs) : PRow H' kf ef L kvs := Paired.mapP r fun _ _ z => ⟨z.1, z.2.mono k⟩
theorem DkP.le (l : Le T H H') (x : DkP H d kf ef L) : DkP H' d kf ef L := by
  obtain ⟨kvs, h1, h2⟩ := x
  exact ⟨kvs, l.dct h1, h2.mono l.tk⟩
theorem PRow.look (inj : ∀ a b, kf a = kf b → a = b) (r : PRow H kf ef L kvs) (a : α) : match RF.look L a with
    | some b => ∃ v, valV kvs (kf a) = some v ∧ Dt H v (ef b)
    | none => valV kvs (kf a) = none := by
  induction r with
  | nil => exact rfl
  | @cons p q ps qs h t ih =>
    rw [look_cons]
    by_cases e : p.1 = a
    · rw [if_pos e]
      exact ⟨q.2, valV_pos (by rw [h.1, e]), h.2⟩
    · rw [if_neg e, valV_neg (fun z => e (inj _ _ (h.1.symm.trans z)))]
      exact ih
theorem PRow.isSome (inj : ∀ a b, kf a = kf b → a = b) (r : PRow H kf ef L kvs) (a : α) : (valV kvs (kf a)).isSome = (RF.look L a).isSome := by
  have h := r.look inj a
  cases q : RF.look L a with
  | none =>
    rw [q] at h
    simp only at h
    rw [h]
    rfl
  | some b =>
    rw [q] at h
    simp only at h
    obtain ⟨v, h1, _⟩ := h
    rw [h1]
    rfl
theorem PRow.put (inj : ∀ a b, kf a = kf b → a = b) (r : PRow H kf ef L kvs) (a : α) {v : V} (hv : Dt H v (ef b)) : PRow H kf ef (putA L a b) (putK kvs (kf a) v) := by
  have e1 : (kvs.any fun kv => decide (kv.1 = kf a)) = (L.any fun p => decide (p.1 = a)) := by rw [valV_any, look_any, r.isSome inj]
  unfold putA putK
  rw [e1]
  split
  · clear e1
    rename_i hh
    clear hh
    induction r with
    | nil => exact .nil
    | @cons p q ps qs h t ih =>
      rw [List.map_cons, List.map_cons]
      refine .cons ?_ ih
      by_cases e : p.1 = a
      · rw [if_pos e, if_pos (by rw [h.1, e])]
        exact ⟨h.1, hv⟩
      · rw [if_neg e, if_neg (fun z => e (inj _ _ (h.1.symm.trans z)))]
        exact h
  · exact Paired.snoc r ⟨rfl, hv⟩
theorem PRow.keys (r : PRow H kf ef L kvs) : kvs.map (·.1) = L.map fun p => kf p.1 := by
  induction r with
  | nil => rfl
  | cons h t ih => rw [List.map_cons, List.map_cons, ih, h.1]
end
section
variable {α β : Type} [DecidableEq α] {T : List (Addr × Str)} {X : Cx} {e o i c : Expr} {σ : St} {H : Hp} {δ : List Sl} {pos pos' p2 : Pos} {q : Addr} {kf : α → List Key} {ef : β → PyData} {L : List (α × β)} {a : α} {b : β} {rest : List Stmt} {D : Ends} {d : PyData}
theorem ev_pget (inj : ∀ a b, kf a = kf b → a = b) (hu : X.A.units + 1 < cLine) (ho : Ev T X o σ H (.v (.ref q))) (hq : DkP H q kf ef L) (hi : EvD T X i σ H (keyD (kf a))) (hb : look L a = some b) (hs : NoSl i := by exact fun _ _ => rfl) : EvD T X (.Subscript o i pos) σ H (ef b) := by
  obtain ⟨kvs, h1, h2⟩ := hq
  have h3 := h2.look inj a
  rw [hb] at h3
  obtain ⟨v, h4, h5⟩ := h3
  exact EvD.ofV (ev_dget hu ho h1 hi h4 hs) h5
theorem eb_pin (inj : ∀ a b, kf a = kf b → a = b) (hu : X.A.units + 1 < cLine) (hi : EvD T X i σ H (keyD (kf a))) (ho : Ev T X o σ H (.v (.ref q))) (hq : DkP H q kf ef L) (hm : behindInMarks .In o = false := by with_unfolding_all rfl) : EB T X (.Compare i [.In] [o] pos) σ H (look L a).isSome := by
  obtain ⟨kvs, h1, h2⟩ := hq
  rw [← h2.isSome inj]
  exact eb_din hu hi ho h1 hm
theorem eb_pnotin (inj : ∀ a b, kf a = kf b → a = b) (hu : X.A.units + 1 < cLine) (hi : EvD T X i σ H (keyD (kf a))) (ho : Ev T X o σ H (.v (.ref q))) (hq : DkP H q kf ef L) (hm : behindInMarks .NotIn o = false := by with_unfolding_all rfl) : EB T X (.Compare i [.NotIn] [o] pos) σ H (!(look L a).isSome) := by
  obtain ⟨kvs, h1, h2⟩ := hq
  rw [← h2.isSome inj]
  exact eb_dnotin hu hi ho h1 hm
theorem DkP.upd {H' : Hp} (inj : ∀ a b, kf a = kf b → a = b) (hq : DkP H q kf ef L) {v : V} (hv : Dt H v (ef b)) : ∃ kvs, H q = some (.dT kvs) ∧ PRow H kf ef L kvs ∧ DkP (upd H q (.dT (putK kvs (kf a) v))) q kf ef (putA L a b) := by
  obtain ⟨kvs, h1, h2⟩ := hq
  exact ⟨kvs, h1, h2, _, upd_same, (h2.put inj a hv).mono (tk_dT h1)⟩
theorem LeX.updD {W : Addr → Prop} {H' : Hp} {kvs kvs' : List (List Key × V)} (l : LeX T W H H') (hw : W q) (h : H' q = some (.dT kvs)) : LeX T W H (upd H' q (.dT kvs')) where
  ex := fun b o n hb t => by
    rw [upd_ne (fun z => n (by rw [z]; exact hw))]
    exact l.ex b o n hb t
  tb := fun t => tabs_dT h (l.tb t)
  fr := fun b hb => l.fr b (NdefX.upd_none hb)
/-- d[i] = e, all data -/
theorem s_pput (inj : ∀ a b, kf a = kf b → a = b) (hu : X.A.units + 1 < cLine) (he : EvD T X e σ H (ef b)) (ho : Ev T X o σ H (.v (.ref q))) (hq : DkP H q kf ef L) (hi : EvD T X i σ H (keyD (kf a))) (hl : L.length < 100000)
    (kk : ∀ H', LeX T (At q) H H' → Tk H H' → DkP H' q kf ef (putA L a b) → wSs X rest D σ H') (hs : swapsWith e (some (.Subscript o i pos')) pos.line X.env = pure false := by rfl) :
    wSs X (.Assign [.Subscript o i pos'] e pos :: rest) D σ H := by
  have hq0 := hq
  obtain ⟨kvs, h1, h2⟩ := hq
  refine s_dput hu he ho h1 hi (by rw [← Paired.length h2]; exact hl) (fun v H' l hv => ?_) hs
  obtain ⟨_, e, hv⟩ := hv
  cases e
  have h3 := l.dct h1
  refine kk _ (LeX.updD (.of l) rfl h3) (l.tk.trans (tk_dT h3)) ⟨_, upd_same, ((h2.mono l.tk).put inj a hv).mono (tk_dT h3)⟩
/-! bits -/
theorem ev_shrN {n m : Nat} (ha : EvD T X o σ H (.int (n : Int))) (hb : EvD T X i σ H (.int (m : Int))) : EvD T X (.BinOp o .RShift i pos) σ H (.int ((n / 2 ^ m : Nat) : Int)) := by
  refine EvD.to (ev_I (f := fun i j => i / 2 ^ j.toNat) (C := fun _ j => 0 ≤ j) op_shr ha hb (Int.natCast_nonneg _)) ?_
  rw [Int.toNat_natCast, Int.natCast_ediv, Int.natCast_pow]
  rfl
theorem ev_odd {n : Nat} (ha : EvD T X o σ H (.int (n : Int))) (hb : EvD T X i σ H (.int 1)) : EvD T X (.BinOp o .BitAnd i pos) σ H (.int ((n % 2 : Nat) : Int)) :=
  ev_op op_odd ha hb fun v w H3 Q _ h2 h3 q => by
    obtain rfl := h2.inv_int
    obtain rfl := h3.inv_int
    exact ⟨n, rfl, rfl, q _ _ (.refl _) (.int _)⟩
theorem ev_shl1 {m : Nat} (ha : EvD T X o σ H (.int 1)) (hb : EvD T X i σ H (.int (m : Int))) (hm : m ≤ 1000) : EvD T X (.BinOp o .LShift i pos) σ H (.int ((2 ^ m : Nat) : Int)) :=
  ev_op op_oneShl ha hb fun v w H3 Q _ h2 h3 q => by
    obtain rfl := h2.inv_int
    obtain rfl := h3.inv_int
    refine ⟨m, rfl, rfl, by omega, q _ _ (.refl _) ?_⟩
    rw [Int.natCast_pow]
    exact .int _
theorem ev_borN {n m : Nat} (ha : EvD T X o σ H (.int (n : Int))) (hb : EvD T X i σ H (.int (m : Int))) : EvD T X (.BinOp o .BitOr i pos) σ H (.int ((n ||| m : Nat) : Int)) := by
  refine EvD.to (ev_I0 (f := fun i j => Builtin.bitOr i j) op_or ha hb) ?_
  rw [bitOr_nn (Int.natCast_nonneg _) (Int.natCast_nonneg _)]
  rfl
/-! x is None, of data -/
def isNonD : PyData → Bool
  | .none => true
  | _ => false
theorem dt_non {v : V} (h : Dt H v d) : decide (v = .non) = isNonD d := by cases h <;> simp [isNonD]
theorem eb_isND {j : Nat} (ha : EvD T X o σ H d) : EB T X (.Compare o [.Is] [.Constant .none j p2] pos) σ H (isNonD d) :=
  eb_cmp op_isN ha ev_non (nomark _) fun v' w H3 Q _ h2 h3 q => by
    obtain ⟨_, e, h2⟩ := h2
    cases e
    obtain ⟨_, e, h3⟩ := h3
    cases e
    obtain rfl := h3.inv_non
    exact ⟨rfl, by rw [dt_non h2]; exact q⟩
theorem eb_notND {j : Nat} (ha : EvD T X o σ H d) : EB T X (.Compare o [.IsNot] [.Constant .none j p2] pos) σ H (!isNonD d) :=
  eb_cmp op_notN ha ev_non (nomark _) fun v' w H3 Q _ h2 h3 q => by
    obtain ⟨_, e, h2⟩ := h2
    cases e
    obtain ⟨_, e, h3⟩ := h3
    cases e
    obtain rfl := h3.inv_non
    exact ⟨rfl, by rw [dt_non h2]; exact q⟩
end
end RF
set_option Elab.async false
set_option linter.all false
set_option maxRecDepth 100000
set_option maxHeartbeats 4000000
/-! class Ways: enter, go_on -/
namespace RF
open PySem PySem.Spec L2 LamX
open PyProof.Rows hiding St

abbrev S2 := Nat × Nat
abbrev En := Nat × Option S2 × Nat
abbrev Ents := List (S2 × En)
def optS : Option S2 → PyData
  | none => .none
  | some s => encPl s
abbrev stK (s : S2) : List Key := [.inl (s.1 : Int), .inl (s.2 : Int)]
theorem stK_inj (a b : S2) (h : stK a = stK b) : a = b := by
  obtain ⟨a1, a2⟩ := a
  obtain ⟨b1, b2⟩ := b
  simp only [stK, List.cons.injEq, Sum.inl.injEq, Int.natCast_inj, and_true] at h
  rw [h.1, h.2]
abbrev encEn (z : En) : PyData := .tuple [.int (z.1 : Int), optS z.2.1, .int (z.2.2 : Int)]
/-! what enter and go_on do -/
def freeBit (used other : Nat) : Bool := decide (used / 2 ^ other % 2 = 0)
def entM (p : Prog) (i : Ins) (used other : Nat) : Option Nat := if freeBit used other = true then firstM i (p.getD other []) else none
def laterS (used other : Nat) : S2 := (used ||| 2 ^ other, other)
def betterM (L : Ents) (s : S2) (en : Nat) : Bool := match look L s with
  | none => true
  | some z => decide (en < z.1)
def enterOne (p : Prog) (i : Ins) (used x : Nat) (ahead : Option S2) (L : Ents) (other : Nat) : Ents := match entM p i used other with
  | none => L
  | some en => if betterM L (laterS used other) en = true then putA L (laterS used other) (en, ahead, x) else L
def enterM (p : Prog) (i : Ins) (used x : Nat) (ahead : Option S2) (L : Ents) : Ents := (List.range p.length).foldl (enterOne p i used x ahead) L
theorem enterOne_le (p : Prog) (i : Ins) (used x : Nat) (ahead : Option S2) (L : Ents) (other : Nat) : (enterOne p i used x ahead L other).length ≤ L.length + 1 := by
  unfold enterOne
  split
  · omega
  · split
    · exact putA_le _ _ _
    · omega
theorem foldl_le {α β : Type} (f : List α → β → List α) (c : Nat) (h : ∀ L b, (f L b).length ≤ L.length + c) : ∀ (bs : List β) (L : List α), (bs.foldl f L).length ≤ L.length + c * bs.length
  | [], L => by simp
  | b :: bs, L => by
    have h1 := foldl_le f c h bs (f L b)
    have h2 := h L b
    rw [List.foldl_cons, List.length_cons, Nat.mul_add]
    omega
theorem enterM_le (p : Prog) (i : Ins) (used x : Nat) (ahead : Option S2) (L : Ents) : (enterM p i used x ahead L).length ≤ L.length + p.length := by
  have := foldl_le (enterOne p i used x ahead) 1 (fun L b => enterOne_le p i used x ahead L b) (List.range p.length) L
  rw [List.length_range] at this
  unfold enterM
  omega
/-- what must be known of the class -/
structure WayT (K : PySem.W.Frag) (C : Addr) : Prop where
  cl : Cls K C
  nT : NoAttr K C "threads"
  nH : NoAttr K C "home"
  nE : NoAttr K C "entries"
abbrev wayF (v : V) (home : Nat) (d : Addr) : List (Str × V) := [("threads", v), ("home", .int (home : Int)), ("entries", .ref d)]
/-- an instance of it -/
def WayAt (C : Addr) (H : Hp) (a : Addr) (p : Prog) (home : Nat) (d : Addr) : Prop := ∃ dx v, H a = some (.ins C dx (wayF v home d)) ∧ Dt H v (encProg p)
section
variable {T : List (Addr × Str)} {X : Cx} {H H' : Hp} {C a d : Addr} {p : Prog} {home : Nat} {σ : St} {o : Expr} {pos : Pos} {L : Ents}
theorem WayAt.le (l : Le T H H') (w : WayAt C H a p home d) : WayAt C H' a p home d := by
  obtain ⟨dx, v, h1, h2⟩ := w
  exact ⟨dx, v, l.ins h1, h2.mono l.tk⟩
theorem WayAt.ne {kvs : List (List Key × V)} (w : WayAt C H a p home d) (h : H d = some (.dT kvs)) : a ≠ d := by
  obtain ⟨dx, v, h1, _⟩ := w
  intro e
  rw [e, h] at h1
  cases h1
theorem dkP_tk {α β : Type} {kf : α → List Key} {ef : β → PyData} {L : List (α × β)} (x : DkP H d kf ef L) (l : LeX T (At d) H H') : Tk H H' := l.tk fun b ys e z => by
  obtain ⟨kvs, h1, _⟩ := x
  rw [show b = d from e, h1] at z
  cases z
theorem WayAt.lex {α β : Type} {kf : α → List Key} {ef : β → PyData} {M : List (α × β)} (l : LeX T (At d) H H') (x : DkP H d kf ef M) (w : WayAt C H a p home d) : WayAt C H' a p home d := by
  have tk := dkP_tk x l
  obtain ⟨kvs, hd, _⟩ := x
  have ne := w.ne hd
  obtain ⟨dx, v, h1, h2⟩ := w
  exact ⟨dx, v, l.ex a _ ne h1 (fun _ z => by cases z), h2.mono tk⟩
theorem way_thr (W : WayT X.K C) (w : WayAt C H a p home d) (ho : Ev T X o σ H (.v (.ref a))) (hb : attributeBase o "threads" X.env (eval o X.env) = eval o X.env := by rfl) : EvD T X (.Attribute o "threads" pos) σ H (encProg p) := by
  obtain ⟨dx, v, h1, h2⟩ := w
  exact EvD.ofV (ev_fld W.cl W.nT ho h1 (by rfl) hb) h2
theorem way_home (W : WayT X.K C) (w : WayAt C H a p home d) (ho : Ev T X o σ H (.v (.ref a))) (hb : attributeBase o "home" X.env (eval o X.env) = eval o X.env := by rfl) : EvD T X (.Attribute o "home" pos) σ H (.int (home : Int)) := by
  obtain ⟨dx, v, h1, h2⟩ := w
  exact EvD.ofV (ev_fld W.cl W.nH ho h1 (by rfl) hb) (.int _)
theorem way_ent (W : WayT X.K C) (w : WayAt C H a p home d) (ho : Ev T X o σ H (.v (.ref a))) (hb : attributeBase o "entries" X.env (eval o X.env) = eval o X.env := by rfl) : Ev T X (.Attribute o "entries" pos) σ H (.v (.ref d)) := by
  obtain ⟨dx, v, h1, h2⟩ := w
  exact ev_fld W.cl W.nE ho h1 (by rfl) hb
end
theorem optI_non (o : Option Nat) : isNonD (optI o) = o.isNone := by cases o <;> rfl
theorem encPl_key (s : S2) : encPl s = keyD (stK s) := rfl
theorem room1 {k : Nat} {A : Around} (r : Room k A) : A.units + 1 < cLine := by have := r.un; omega
section
variable {P : Program} {w : World} {K : PySem.W.Frag} {mg : Str → Option Value} {base : Heap} {T : List (Addr × Str)} {f : Addr} {fd : FuncData} {k : Nat} {C : Addr}
def spEnter (T : List (Addr × Str)) (C : Addr) : Sp := fun vs H Q _ => ∃ (a d : Addr) (p : Prog) (home : Nat) (L : Ents) (st pl : S2) (ahead : Option S2) (i : Ins) (v1 v2 v3 : V), vs = [.ref a, v1, v2, v3] ∧ WayAt C H a p home d ∧ DkP H d stK encEn L ∧ ProgOk p ∧
  Dt H v1 (encPl st) ∧ Dt H v2 (encPl pl) ∧ Dt H v3 (optS ahead) ∧ insAt p pl.1 pl.2 = some i ∧ i.acc = true ∧ L.length < 90000 ∧ ∀ H', LeX T (At d) H H' → DkP H' d stK encEn (enterM p i st.1 pl.2 ahead L) → Q .non H'
abbrev nWE : List Str := ["self", "state", "place", "ahead", "used", "other", "entry", "later"]
theorem ok_enter (M : Nm mg) (W : WayT K C) (F : Fun K "enter" "Ways.enter" (clsM 19 1) f fd) (C1 : Cal P w K mg base k "first_meeting" ["program", "place", "thread"] (spR T 3 rFirst)) : FnOk P w K mg base CX0 (k + 1) f fd ["self", "state", "place", "ahead"] (spEnter T C) := by
  have S : FnScope nWE ["self", "state", "place", "ahead"] (defScope (clsM 19 1)) := ⟨rfl, rfl, rfl, by decide +kernel, rfl, by decide +kernel, by decide +kernel⟩
  refine fun_okW F S (fun vs H Q E h => ?_) fun X cdv A outer s H vs Q E e c hr h => ?_
  · obtain ⟨a, d, p, home, L, st, pl, ahead, i, v1, v2, v3, rfl, _⟩ := h
    rfl
  subst e
  obtain ⟨a, d, p, home, L, st, pl, ahead, i, v1, v2, v3, rfl, wa, dk, hp, h1, h2, h3, hi, ai, hL, q⟩ := h
  have g : Sg H (L2.start nWE [.ref a, v1, v2, v3]) [.v (.ref a), .d (encPl st), .d (encPl pl), .d (optS ahead), .x, .x, .x, .x] :=
    .cons rfl (.cons ⟨_, rfl, h1⟩ (.cons ⟨_, rfl, h2⟩ (.cons ⟨_, rfl, h3⟩ (.cons True.intro (.cons True.intro (.cons True.intro (.cons True.intro .nil)))))))
  refine s_set (T := T) c 4 g (s := .d (.int (st.1 : Int))) (ev_ix (ev_v 1 g rfl) ev_int rfl) fun v4 σ1 H1 l1 _ g1 => ?_
  have g1' : Sg H1 σ1 [.v (.ref a), .d (encPl st), .d (encPl pl), .d (optS ahead), .d (.int (st.1 : Int)), .x, .x, .x] := g1
  refine s_for (T := T) c (enc := encN) (L := List.range p.length) (ei_range1 (ea_1 (EvD.to (ev_lenT (way_thr W (wa.le l1) (ev_v 0 g1' rfl)) M.len) (by rw [List.length_map]))) (by have := hp.1; omega) M.range)
    (fun Hs n σ' H' => LeX T (At d) Hs H' ∧ Sg H' σ' [.v (.ref a), .d (encPl st), .d (encPl pl), .d (optS ahead), .d (.int (st.1 : Int)), .x, .x, .x] ∧ DkP Hs d stK encEn L ∧ WayAt C Hs a p home d ∧ DkP H' d stK encEn (((List.range p.length).take n).foldl (enterOne p i st.1 pl.2 ahead) L))
    (fun H2 l => ⟨.refl _, g1'.mono l.tk, dk.le (l1.trans l), wa.le (l1.trans l), by rw [List.take_zero]; exact dk.le (l1.trans l)⟩) (fun H2 n σ' H' l j => ⟨dkP_tk j.2.2.1 j.1, fun _ _ z => z.elim⟩) (fun H2 n σ' H' H3 j l => ⟨j.1.trans (.of l), j.2.1.mono l.tk, j.2.2.1, j.2.2.2.1, j.2.2.2.2.le l⟩)
    (fun H2 n x v σ' H' l hx j dv => ?_) fun H2 σ' H' l j => ?_
  · obtain ⟨j1, j2, j3, j4, j5⟩ := j
    have hxm := List.mem_of_getElem? hx
    rw [List.mem_range] at hxm
    obtain ⟨r, hpr⟩ : ∃ r, p[x]? = some r := ⟨_, List.getElem?_eq_getElem hxm⟩
    have hgd : p.getD x [] = r := by rw [List.getD_eq_getElem?_getD, hpr]; rfl
    have tk1 : ((List.range p.length).take (n + 1)).foldl (enterOne p i st.1 pl.2 ahead) L = enterOne p i st.1 pl.2 ahead (((List.range p.length).take n).foldl (enterOne p i st.1 pl.2 ahead) L) x := by
      rw [List.take_add_one, hx, List.foldl_append]
      rfl
    have hLl : (((List.range p.length).take n).foldl (enterOne p i st.1 pl.2 ahead) L).length < 100000 := by
      have h1 := foldl_le (enterOne p i st.1 pl.2 ahead) 1 (fun L b => enterOne_le p i st.1 pl.2 ahead L b) ((List.range p.length).take n) L
      have h2 : ((List.range p.length).take n).length ≤ p.length := by rw [List.length_take, List.length_range]; exact Nat.min_le_right _ _
      have h3 := hp.1
      omega
    rw [tk1]
    generalize hLn : ((List.range p.length).take n).foldl (enterOne p i st.1 pl.2 ahead) L = Ln at j5 hLl ⊢
    have wa' := j4.lex j1 j3
    refine g_name (s := .d (.int (x : Int))) c 5 j2 ⟨_, rfl, dv⟩ fun σ3 g3 => ?_
    have g3' : Sg H' σ3 [.v (.ref a), .d (encPl st), .d (encPl pl), .d (optS ahead), .d (.int (st.1 : Int)), .d (.int x), .x, .x] := g3
    refine s_set (T := T) c 6 g3' (s := .d (optI (entM p i st.1 x))) ?_ fun v6 σ4 H4 l4 _ g4 => ?_
    · refine ev_if (k := freeBit st.1 x) (EB.t (EB.to (eb_eqI (ev_odd (ev_shrN (ev_v 4 g3' rfl) (ev_v 5 g3' rfl)) ev_int) ev_int) ?_)) (fun h => ?_) fun h => ?_
      · unfold freeBit
        rw [decide_eq_decide]
        omega
      · refine EvD.to (ev_callR (ds := [encProg p, encPl pl, .int x]) C1 hr (ea_cons (way_thr W wa' (ev_v 0 g3' rfl)) (ea_cons (ev_v 2 g3' rfl) (ea_1 (ev_v 5 g3' rfl)))) ⟨p, pl.1, pl.2, x, i, r, hi, ai, hpr, rfl, rfl⟩) ?_
        unfold entM
        rw [if_pos h, hgd]
      · refine EvD.to ev_non ?_
        unfold entM
        rw [if_neg (by rw [h]; exact Bool.false_ne_true)]
        rfl
    have g4' : Sg H4 σ4 [.v (.ref a), .d (encPl st), .d (encPl pl), .d (optS ahead), .d (.int (st.1 : Int)), .d (.int x), .d (optI (entM p i st.1 x)), .x] := g4
    have hx1000 : x ≤ 1000 := by have := hp.1; omega
    refine s_set (T := T) c 7 g4' (s := .d (encPl (laterS st.1 x))) (ev_tup (ds := [.int ((st.1 ||| 2 ^ x : Nat) : Int), .int (x : Int)]) (ea_cons (ev_borN (ev_v 4 g4' rfl) (ev_shl1 ev_int (ev_v 5 g4' rfl) hx1000)) (ea_1 (ev_v 5 g4' rfl)))) fun v7 σ5 H5 l5 _ g5 => ?_
    have g5' : Sg H5 σ5 [.v (.ref a), .d (encPl st), .d (encPl pl), .d (optS ahead), .d (.int (st.1 : Int)), .d (.int x), .d (optI (entM p i st.1 x)), .d (encPl (laterS st.1 x))] := g5
    have l45 := l4.trans l5
    have wa5 := wa'.le l45
    have dk5 := j5.le l45
    have hu := room1 hr
    have back : ∀ {H6 : Hp}, LeX T (At d) H5 H6 → LeX T (At d) H2 H6 := fun z => (j1.trans (.of l45)).trans z
    refine s_if0 (T := T) (k := match entM p i st.1 x with | none => false | some en => betterM Ln (laterS st.1 x) en) ?_ (fun h H6 l6 => ?_) fun h H6 l6 => s_nil ⟨back (.of l6), (((g5'.mono l6.tk).forget 5).forget 6).forget 7, j3, j4, ?_⟩
    · cases he : entM p i st.1 x with
      | none =>
        rw [he] at g5'
        exact EB.to (eb_and (k := false) (k' := false) (EB.to (eb_notND (ev_v 6 g5' rfl)) rfl) fun h => by cases h) rfl
      | some en =>
        rw [he] at g5'
        refine EB.to (eb_and (k := true) (k' := betterM Ln (laterS st.1 x) en) (EB.to (eb_notND (ev_v 6 g5' rfl)) rfl) fun _ => ?_) rfl
        cases hlk : look Ln (laterS st.1 x) with
        | none =>
          refine EB.to (eb_or (k := true) (k' := false) (EB.to (eb_pnotin stK_inj hu (ev_v 7 g5' rfl) (way_ent W wa5 (ev_v 0 g5' rfl)) dk5) ?_) fun h => by cases h) ?_
          · rw [hlk]; rfl
          · unfold betterM; rw [hlk]; rfl
        | some z =>
          refine EB.to (eb_or (k := false) (k' := decide ((en : Int) < (z.1 : Int))) (EB.to (eb_pnotin stK_inj hu (ev_v 7 g5' rfl) (way_ent W wa5 (ev_v 0 g5' rfl)) dk5) ?_) fun _ => ?_) ?_
          · rw [hlk]; rfl
          · exact eb_lt (ev_v 6 g5' rfl) (ev_ix (ds := [.int (z.1 : Int), optS z.2.1, .int (z.2.2 : Int)]) (ev_pget (ef := encEn) stK_inj hu (way_ent W wa5 (ev_v 0 g5' rfl)) dk5 (ev_v 7 g5' rfl) hlk) ev_int rfl)
          · unfold betterM
            rw [hlk]
            show (false || decide ((en : Int) < (z.1 : Int))) = decide (en < z.1)
            rw [Bool.false_or, decide_eq_decide]
            omega
    · cases he : entM p i st.1 x with
      | none => rw [he] at h; cases h
      | some en =>
        rw [he] at h
        have g6 := g5'.mono l6.tk
        rw [he] at g6
        have g6' : Sg H6 σ5 [.v (.ref a), .d (encPl st), .d (encPl pl), .d (optS ahead), .d (.int (st.1 : Int)), .d (.int x), .d (.int (en : Int)), .d (encPl (laterS st.1 x))] := g6
        refine s_pput (T := T) (b := (en, ahead, pl.2)) (a := laterS st.1 x) stK_inj hu ?_ (way_ent W (wa5.le l6) (ev_v 0 g6' rfl)) (dk5.le l6) (ev_v 7 g6' rfl) hLl fun H7 l7 t7 dk7 => s_nil ?_
        · exact ev_tup (ds := [.int (en : Int), optS ahead, .int (pl.2 : Int)]) (ea_cons (ev_v 6 g6' rfl) (ea_cons (ev_v 3 g6' rfl) (ea_1 (ev_ix (ev_v 2 g6' rfl) ev_int rfl))))
        · refine s_nil ⟨back ((LeX.of l6).trans l7), (((g6'.mono t7).forget 5).forget 6).forget 7, j3, j4, ?_⟩
          unfold enterOne
          rw [he]
          have h' : betterM Ln (laterS st.1 x) en = true := h
          simp only [h', if_true]
          exact dk7
    · unfold enterOne
      cases he : entM p i st.1 x with
      | none => exact dk5.le l6
      | some en =>
        rw [he] at h
        have h' : betterM Ln (laterS st.1 x) en = false := h
        simp only [h', Bool.false_eq_true, if_false]
        exact dk5.le l6
  · obtain ⟨j1, j2, j3, j4, j5⟩ := j
    have e : (List.range p.length).take (List.range p.length).length = List.range p.length := List.take_length
    rw [e] at j5
    exact s_nil (q H' ((LeX.of (l1.trans l)).trans j1) j5)
end
end RF
set_option Elab.async false
set_option linter.all false
set_option maxRecDepth 100000
set_option maxHeartbeats 4000000
/-! class Ways: go_on, __init__ -/
namespace RF
open PySem PySem.Spec L2 LamX
open PyProof.Rows hiding St
open PySem.W (dataLe)

theorem mem_sortN {L : List Nat} {a : Nat} : a ∈ L.mergeSort (dataLe false encN) ↔ a ∈ L := List.mem_mergeSort
theorem exPut_mem {L : List (EK × Nat)} {k : EK} {a : Nat} {p : EK × Nat} (h : p ∈ exPut L k a) : p ∈ L ∨ p = (k, a) := by
  unfold exPut at h
  split at h
  · exact .inl h
  · rcases List.mem_append.mp h with h | h
    · exact .inl h
    · exact .inr (by simpa using h)
/-- a kept place is an access -/
def ExGood (r : List Ins) (e : Nat) (p : EK × Nat) : Prop := e ≤ p.2 ∧ ∃ i, r[p.2]? = some i ∧ i.acc = true ∧ p.1 = exKey i
theorem exFoldl_good (r : List Ins) (e : Nat) : ∀ (as : List Nat) (L : List (EK × Nat)), (∀ a ∈ as, e ≤ a) → (∀ p ∈ L, ExGood r e p) → ∀ p ∈ as.foldl (exStep r) L, ExGood r e p
  | [], L, _, h => h
  | a :: as, L, ha, h => by
    refine exFoldl_good r e as (exStep r L a) (fun b hb => ha b (List.mem_cons_of_mem _ hb)) fun p hp => ?_
    unfold exStep at hp
    split at hp
    · rename_i i hi
      split at hp
      · rename_i hacc
        rcases exPut_mem hp with hp | rfl
        · exact h p hp
        · exact ⟨ha a List.mem_cons_self, i, hi, hacc, rfl⟩
      · exact h p hp
    · exact h p hp
theorem exFold_good (r : List Ins) (e : Nat) : ∀ p ∈ exFold r e, ExGood r e p :=
  exFoldl_good r e _ [] (fun a ha => (List.mem_range'_1.mp ha).1) fun p hp => nomatch hp
theorem exits_good {r : List Ins} {e a : Nat} (h : a ∈ exitsM r e) : e ≤ a ∧ ∃ i, r[a]? = some i ∧ i.acc = true := by
  unfold exitsM at h
  rw [mem_sortN] at h
  obtain ⟨p, hp, rfl⟩ := List.mem_map.mp h
  obtain ⟨h1, i, h2, h3, _⟩ := exFold_good r e p hp
  exact ⟨h1, i, h2, h3⟩
theorem exits_le (r : List Ins) (e : Nat) : (exitsM r e).length ≤ r.length := by
  unfold exitsM
  rw [List.length_mergeSort, List.length_map]
  have h1 := exFoldl_le r (List.range' e (r.length - e)) []
  rw [List.length_range', List.length_nil] at h1
  unfold exFold
  omega
def goStep (p : Prog) (st : S2) (M : Ents) (a : Nat) : Ents := match insAt p st.2 a with
  | some i => enterM p i st.1 a (some st) M
  | none => M
def goOnM (p : Prog) (L : Ents) (st : S2) : Ents := match look L st with
  | none => L
  | some z => (exitsM (p.getD st.2 []) z.1).foldl (goStep p st) L
theorem goStep_le (p : Prog) (st : S2) (M : Ents) (a : Nat) : (goStep p st M a).length ≤ M.length + p.length := by
  unfold goStep
  split
  · exact enterM_le _ _ _ _ _ _
  · omega
theorem goOn_le (p : Prog) (hp : ProgOk p) (L : Ents) (st : S2) : (goOnM p L st).length ≤ L.length + 96 := by
  unfold goOnM
  split
  · omega
  · rename_i z _
    have h1 := foldl_le (goStep p st) p.length (fun M a => goStep_le p st M a) (exitsM (p.getD st.2 []) z.1) L
    have h2 : (exitsM (p.getD st.2 []) z.1).length ≤ 16 := by
      refine Nat.le_trans (exits_le _ _) ?_
      rw [List.getD_eq_getElem?_getD]
      cases hh : p[st.2]? with
      | none => exact Nat.zero_le _
      | some r => exact (hp.2 r (List.mem_of_getElem? hh)).1
    have h3 := Nat.mul_le_mul hp.1 h2
    omega
/-- the entries are places of rows -/
def EntsOk (p : Prog) (L : Ents) : Prop := ∀ z ∈ L, z.1.2 < p.length ∧ z.2.1 < 1000
theorem putA_mem {α β : Type} [DecidableEq α] {L : List (α × β)} {a : α} {b : β} {z : α × β} (h : z ∈ putA L a b) : z ∈ L ∨ z = (a, b) := by
  unfold putA at h
  split at h
  · obtain ⟨y, hy, e⟩ := List.mem_map.mp h
    split at e
    · rename_i h1
      exact .inr (by rw [← e, h1])
    · exact .inl (e ▸ hy)
  · rcases List.mem_append.mp h with h | h
    · exact .inl h
    · exact .inr (by simpa using h)
theorem firstM_lt {i : Ins} {r : List Ins} {n : Nat} (h : firstM i r = some n) : n < r.length := by
  unfold firstM at h
  rw [List.findIdx?_eq_some_iff_getElem] at h
  exact h.1
theorem enterOne_ok {p : Prog} (hp : ProgOk p) {i : Ins} {used x other : Nat} {ahead : Option S2} {L : Ents} (ho : other < p.length) (h : EntsOk p L) : EntsOk p (enterOne p i used x ahead L other) := by
  unfold enterOne
  cases he : entM p i used other with
  | none => exact h
  | some en =>
    simp only
    split
    · intro z hz
      rcases putA_mem hz with hz | rfl
      · exact h z hz
      · refine ⟨ho, ?_⟩
        unfold entM at he
        split at he
        · have h1 := firstM_lt he
          rw [List.getD_eq_getElem?_getD, List.getElem?_eq_getElem ho] at h1
          have h2 := (hp.2 _ (List.getElem_mem ho)).1
          have h3 : en < p[other].length := h1
          show en < 1000
          omega
        · cases he
    · exact h
theorem foldl_inv {α β : Type} {f : α → β → α} {I : α → Prop} : ∀ (bs : List β) (a : α), I a → (∀ a b, b ∈ bs → I a → I (f a b)) → I (bs.foldl f a)
  | [], a, h, _ => h
  | b :: bs, a, h, hs => foldl_inv bs (f a b) (hs a b List.mem_cons_self h) fun a c hc => hs a c (List.mem_cons_of_mem _ hc)
theorem enterM_ok {p : Prog} (hp : ProgOk p) {i : Ins} {used x : Nat} {ahead : Option S2} {L : Ents} (h : EntsOk p L) : EntsOk p (enterM p i used x ahead L) :=
  foldl_inv _ _ h fun _ b hb ih => enterOne_ok hp (List.mem_range.mp hb) ih
theorem goStep_ok {p : Prog} (hp : ProgOk p) {st : S2} {L : Ents} {a : Nat} (h : EntsOk p L) : EntsOk p (goStep p st L a) := by
  unfold goStep
  split
  · exact enterM_ok hp h
  · exact h
theorem goOn_ok {p : Prog} (hp : ProgOk p) {st : S2} {L : Ents} (h : EntsOk p L) : EntsOk p (goOnM p L st) := by
  unfold goOnM
  split
  · exact h
  · exact foldl_inv _ _ h fun _ b _ ih => goStep_ok hp ih
section
variable {P : Program} {w : World} {K : PySem.W.Frag} {mg : Str → Option Value} {base : Heap} {T : List (Addr × Str)} {f : Addr} {fd : FuncData} {k : Nat} {C : Addr}
def spGoOn (T : List (Addr × Str)) (C : Addr) : Sp := fun vs H Q _ => ∃ (a d : Addr) (p : Prog) (home : Nat) (L : Ents) (st : S2) (v1 : V), vs = [.ref a, v1] ∧ WayAt C H a p home d ∧ DkP H d stK encEn L ∧ ProgOk p ∧ EntsOk p L ∧
  Dt H v1 (encPl st) ∧ L.length < 80000 ∧ ∀ H', LeX T (At d) H H' → DkP H' d stK encEn (goOnM p L st) → Q .non H'
abbrev nWG : List Str := ["self", "state", "at"]
theorem ok_go_on (M : Nm mg) (W : WayT K C) (F : Fun K "go_on" "Ways.go_on" (clsM 19 2) f fd) (C1 : Cal P w K mg base k "exits_from" ["instructions", "entry"] (spRL T 2 rExits)) (M1 : MetC P w K mg base k C "enter" ["self", "state", "place", "ahead"] (spEnter T C)) :
    FnOk P w K mg base CX0 (k + 1) f fd ["self", "state"] (spGoOn T C) := by
  have S : FnScope nWG ["self", "state"] (defScope (clsM 19 2)) := ⟨rfl, rfl, rfl, by decide +kernel, rfl, by decide +kernel, by decide +kernel⟩
  refine fun_okW F S (fun vs H Q E h => ?_) fun X cdv A outer s H vs Q E e c hr h => ?_
  · obtain ⟨a, d, p, home, L, st, v1, rfl, _⟩ := h
    rfl
  subst e
  obtain ⟨a, d, p, home, L, st, v1, rfl, wa, dk, hp, eo, h1, hL, q⟩ := h
  have g : Sg H (L2.start nWG [.ref a, v1]) [.v (.ref a), .d (encPl st), .x] := .cons rfl (.cons ⟨_, rfl, h1⟩ (.cons True.intro .nil))
  have hu := room1 hr
  refine s_if0 (T := T) (eb_pin stK_inj hu (ev_v 1 g rfl) (way_ent W wa (ev_v 0 g rfl)) dk) (fun h H1 l1 => ?_) fun h H1 l1 => s_nil (q H1 (.of l1) ?_)
  · obtain ⟨z, hz⟩ := Option.isSome_iff_exists.mp h
    have hzo := eo _ (look_mem hz)
    obtain ⟨r, hpr⟩ : ∃ r, p[st.2]? = some r := ⟨_, List.getElem?_eq_getElem hzo.1⟩
    have hgd : p.getD st.2 [] = r := by rw [List.getD_eq_getElem?_getD, hpr]; rfl
    have hR : RowOk r := hp.row (List.mem_of_getElem? hpr)
    have g1 := g.mono l1.tk
    have dk1 := dk.le l1
    have wa1 := wa.le l1
    have dn1 : ∃ o, H1 d = some o := by obtain ⟨kvs, h, _⟩ := dk1; exact ⟨_, h⟩
    refine s_for (T := T) c (enc := encN) (L := exitsM r z.1) (ei_new (ev_callRL (ds := [encRow r, .int (z.1 : Int)]) C1 hr (ea_cons (ev_ix (way_thr W wa1 (ev_v 0 g1 rfl)) (ev_ix (ev_v 1 g1 rfl) ev_int rfl) (atI_map hpr)) (ea_1 (ev_ix (ds := [.int (z.1 : Int), optS z.2.1, .int (z.2.2 : Int)]) (ev_pget (ef := encEn) stK_inj hu (way_ent W wa1 (ev_v 0 g1 rfl)) dk1 (ev_v 1 g1 rfl) hz) ev_int rfl))) ⟨r, z.1, hR, rfl, hzo.2, rfl⟩))
      (fun Hs n σ' H' => LeX T (At d) Hs H' ∧ Sg H' σ' [.v (.ref a), .d (encPl st), .x] ∧ Le T H1 Hs ∧ DkP Hs d stK encEn L ∧ WayAt C Hs a p home d ∧ DkP H' d stK encEn (((exitsM r z.1).take n).foldl (goStep p st) L))
      (fun H2 l => ⟨.refl _, g1.mono l.tk, l, dk1.le l, wa1.le l, by rw [List.take_zero]; exact dk1.le l⟩) (fun H2 n σ' H' l j => ⟨dkP_tk j.2.2.2.1 j.1, fun b ys hb hh => j.1.ex b _ (fun e => ?_) hh fun _ z => by cases z⟩) (fun H2 n σ' H' H3 j l => ⟨j.1.trans (.of l), j.2.1.mono l.tk, j.2.2.1, j.2.2.2.1, j.2.2.2.2.1, j.2.2.2.2.2.le l⟩)
      (fun H2 n x v σ' H' l hx j dv => ?_) fun H2 σ' H' l j => ?_
    · obtain ⟨o, ho⟩ := dn1
      have hb' : H1 b = none := hb
      rw [show b = d from e, ho] at hb'
      cases hb'
    · obtain ⟨j1, j2, j2', j3, j4, j5⟩ := j
      obtain ⟨hge, i, hi, ai⟩ := exits_good (List.mem_of_getElem? hx)
      have hins : insAt p st.2 x = some i := by unfold insAt; rw [hpr]; exact hi
      have tk1 : ((exitsM r z.1).take (n + 1)).foldl (goStep p st) L = goStep p st (((exitsM r z.1).take n).foldl (goStep p st) L) x := by
        rw [List.take_add_one, hx, List.foldl_append]
        rfl
      have hLl : (((exitsM r z.1).take n).foldl (goStep p st) L).length < 90000 := by
        have h1 := foldl_le (goStep p st) p.length (fun M a => goStep_le p st M a) ((exitsM r z.1).take n) L
        have h2 : ((exitsM r z.1).take n).length ≤ 16 := by
          rw [List.length_take]
          exact Nat.le_trans (Nat.min_le_right _ _) (Nat.le_trans (exits_le _ _) (hp.2 r (List.mem_of_getElem? hpr)).1)
        have h3 := Nat.mul_le_mul hp.1 h2
        omega
      rw [tk1]
      generalize hLn : ((exitsM r z.1).take n).foldl (goStep p st) L = Ln at j5 hLl ⊢
      have wa' := j4.lex j1 j3
      refine g_name (s := .d (.int (x : Int))) c 2 j2 ⟨_, rfl, dv⟩ fun σ3 g3 => ?_
      have g3' : Sg H' σ3 [.v (.ref a), .d (encPl st), .d (.int x)] := g3
      have wa2 := wa'
      obtain ⟨dx, v0, hins0, hd0⟩ := wa2
      refine s_exprG (w_meth (T := T) (ss := [.d (encPl st), .d (encPl (st.2, x)), .d (encPl st)]) W.cl M1 hr (ev_v 0 g3' rfl) hins0 rfl ?_ fun vs H4 l4 hv => ?_)
      · exact ea_cons (ev_v 1 g3' rfl) (ea_cons (ev_tup (ds := [.int (st.2 : Int), .int (x : Int)]) (ea_cons (ev_ix (ev_v 1 g3' rfl) ev_int rfl) (ea_1 (ev_v 2 g3' rfl)))) (ea_1 (ev_v 1 g3' rfl)))
      · cases hv with
        | cons q1 t =>
          cases t with
          | cons q2 t =>
            cases t with
            | cons q3 t =>
              cases t
              obtain ⟨_, e1, q1⟩ := q1
              cases e1
              obtain ⟨_, e2, q2⟩ := q2
              cases e2
              obtain ⟨_, e3, q3⟩ := q3
              cases e3
              refine ⟨a, d, p, home, Ln, st, (st.2, x), some st, i, _, _, _, rfl, wa'.le l4, j5.le l4, hp, q1, q2, q3, hins, ai, hLl, fun H5 l5 dk5 => s_nil ?_⟩
              have l45 : LeX T (At d) H' H5 := (LeX.of l4).trans l5
              refine ⟨j1.trans l45, (g3'.mono (dkP_tk j5 l45)).forget 2, j2', j3, j4, ?_⟩
              unfold goStep
              rw [hins]
              exact dk5
    · obtain ⟨j1, j2, j2', j3, j4, j5⟩ := j
      rw [List.take_length] at j5
      refine s_nil (s_nil (q H' ((LeX.of (l1.trans j2')).trans j1) ?_))
      unfold goOnM
      rw [hz, hgd]
      exact j5
  · have hz : look L st = none := by simpa using h
    unfold goOnM
    rw [hz]
    exact dk.le l1
end
end RF
set_option Elab.async false
set_option linter.all false
set_option maxRecDepth 100000
set_option maxHeartbeats 4000000
/-! loops over dicts, while; class Ways: __init__, ring_over -/
namespace RF
open PySem PySem.Spec L2 LamX
open PyProof.Rows hiding St
open PySem.W (dataLe)

section
variable {T : List (Addr × Str)} {X : Cx} {e : Expr} {σ : St} {H : Hp} {δ : List Sl} {pos : Pos} {rest body : List Stmt} {D : Ends} {α γ β : Type} [DecidableEq γ] {enc : α → PyData} {Ls : List α} {tg cnd : Expr} {kf : γ → List Key} {ef : β → PyData} {d : Addr}
/-- a loop that fills the dict at d: a turn makes F M x of M -/
theorem s_forD (c : Fx X) {S : Addr → Prop} (h : EvI T X tg e σ H S enc Ls) (g : Sg H σ δ) {M0 : List (γ × β)} (dk : DkP H d kf ef M0) (F : List (γ × β) → α → List (γ × β)) (hS : ∀ q, S q → q ≠ d)
    (hs : ∀ n x v σ' H' M, Ls[n]? = some x → M = (Ls.take n).foldl F M0 → LeX T (At d) H H' → Tk H H' → Sg H' σ' δ → DkP H' d kf ef M → Dt H' v (enc x) →
      wG X tg v σ' H' fun σ2 H3 => wSs X body { D with nx := fun σ3 H4 => LeX T (At d) H' H4 ∧ Sg H4 σ3 δ ∧ DkP H4 d kf ef (F M x), ct := fun σ3 H4 => LeX T (At d) H' H4 ∧ Sg H4 σ3 δ ∧ DkP H4 d kf ef (F M x), bk := wSs X rest D } σ2 H3)
    (hd : ∀ σ' H', LeX T (At d) H H' → Tk H H' → Sg H' σ' δ → DkP H' d kf ef (Ls.foldl F M0) → wSs X rest D σ' H') (hfs : ∀ x, foldedSetIterable e X.env x = pure x := by intro _; rfl) : wSs X (.For tg e body [] pos :: rest) D σ H := by
  refine s_for c h (fun H1 n σ' H' => Le T H H1 ∧ LeX T (At d) H1 H' ∧ Sg H' σ' δ ∧ DkP H' d kf ef ((Ls.take n).foldl F M0)) (fun H1 l => ⟨l, .refl _, g.mono l.tk, by rw [List.take_zero]; exact dk.le l⟩)
    (fun H1 n σ' H' l j => ⟨dkP_tk (dk.le l) j.2.1, fun q xs hq hh => j.2.1.lst (hS q hq) hh⟩) (fun H1 n σ' H' H2 j l => ⟨j.1, j.2.1.trans (.of l), j.2.2.1.mono l.tk, j.2.2.2.le l⟩) (fun H1 n x v σ' H' l hx j dv => ?_) (fun H1 σ' H' l j => ?_) hfs
  · obtain ⟨j0, j1, j2, j3⟩ := j
    have tk1 : (Ls.take (n + 1)).foldl F M0 = F ((Ls.take n).foldl F M0) x := by rw [List.take_add_one, hx, List.foldl_append]; rfl
    have l1 : LeX T (At d) H H' := (LeX.of l).trans j1
    refine (hs n x v σ' H' _ hx rfl l1 (dkP_tk dk l1) j2 j3 dv).imp fun σ2 H3 q2 => ?_
    intro pins s I
    refine thn (q2 pins s I) fun f s' hf => ?_
    cases f with
    | next =>
      obtain ⟨σ4, H4, I4, k1, k2, k3⟩ := hf
      exact ⟨σ4, H4, I4, j0, j1.trans k1, k2, by rw [tk1]; exact k3⟩
    | cont =>
      obtain ⟨σ4, H4, I4, k1, k2, k3⟩ := hf
      exact ⟨σ4, H4, I4, j0, j1.trans k1, k2, by rw [tk1]; exact k3⟩
    | brk => exact hf
    | ret u => exact hf
  · obtain ⟨j0, j1, j2, j3⟩ := j
    rw [List.take_length] at j3
    have l1 : LeX T (At d) H H' := (LeX.of l).trans j1
    exact hd σ' H' l1 (dkP_tk dk l1) j2 j3
/-- while -/
theorem s_while (c : Fx X) (W : Nat → St → Hp → Prop) (m0 : Nat) (w0 : W m0 σ H)
    (hs : ∀ m σ' H', W m σ' H' → ∃ b, EvT T X cnd σ' H' b ∧ (b = true → ∀ H2, Le T H' H2 → wSs X body { D with nx := fun σ3 H3 => ∃ m', m' < m ∧ W m' σ3 H3, ct := fun σ3 H3 => ∃ m', m' < m ∧ W m' σ3 H3, bk := wSs X rest D } σ' H2) ∧ (b = false → ∀ H2, Le T H' H2 → wSs X rest D σ' H2)) :
    wSs X (.While cnd body [] pos :: rest) D σ H := by
  refine s_cons (w_ps (ps_while c.po pt_w pss_w) ⟨W, ⟨m0, w0⟩, fun m σ' H' w => ?_⟩)
  obtain ⟨b, h1, h2, h3⟩ := hs m σ' H' w
  refine h1 H' (.refl _) _ fun H2 l2 => ?_
  cases b with
  | true => exact ⟨_, fun _ _ z => z, h2 rfl H2 l2⟩
  | false => exact h3 rfl H2 l2
/-- l[::-1], l a list that stands -/
theorem ev_revL {r : Addr} {xs : List V} {ds : List PyData} {k : Nat} {p1 p2 p3 : Pos} (h : Ev T X e σ H (.v (.ref r))) (hr : H r = some (.lst xs)) (hd : DtL H xs ds) :
    EvL T X (.Subscript e (.Slice none none (some (.UnaryOp .USub (.Constant (.int 1) k p1) p2)) p3) pos) σ H ds.reverse := fun H1 l Q q => by
  refine w_pe (pe_revL pe_w) (h H1 l _ fun v H2 l2 h2 => ?_)
  have e : some v = some (V.ref r) := h2
  cases e
  have hr2 := (l.trans l2).lst hr
  have hd2 := hd.mono (l.trans l2).tk
  refine ⟨r, xs, rfl, SqL.of hr2, fun p hp => q p _ _ (l2.fr p hp) (l2.trans (.new hp)) upd_same ?_⟩
  exact (dtl_rev hd2).mono (Le.new (T := T) hp).tk
where
  dtl_rev : ∀ {H : Hp} {xs : List V} {ds : List PyData}, DtL H xs ds → DtL H xs.reverse ds.reverse := fun {H xs ds} h => by
    induction xs generalizing ds with
    | nil => cases h; exact .nil
    | cons x xs ih =>
      cases h with
      | cons h1 h2 =>
        rw [List.reverse_cons, List.reverse_cons]
        exact (ih h2).append (.cons h1 .nil)
end
/-! ### __init__ -/
def waysM (p : Prog) (i : Ins) (home late : Nat) : Ents := (List.range (2 ^ p.length)).foldl (fun L used => (List.range p.length).foldl (fun L th => goOnM p L (used, th)) L) (enterM p i (2 ^ home) late none [])
theorem goRow_le (p : Prog) (hp : ProgOk p) (used : Nat) (ths : List Nat) (L : Ents) : (ths.foldl (fun L th => goOnM p L (used, th)) L).length ≤ L.length + 96 * ths.length :=
  foldl_le _ 96 (fun L th => goOn_le p hp L (used, th)) ths L
theorem pow_le64 {n : Nat} (h : n ≤ 6) : 2 ^ n ≤ 64 := Nat.le_trans (Nat.pow_le_pow_right (by decide) h) (by decide)
theorem ways_le (p : Prog) (hp : ProgOk p) (L : Ents) (m : List Nat) : (m.foldl (fun L used => (List.range p.length).foldl (fun L th => goOnM p L (used, th)) L) L).length ≤ L.length + 576 * m.length := by
  refine foldl_le _ 576 (fun L used => ?_) m L
  have h := goRow_le p hp used (List.range p.length) L
  rw [List.length_range] at h
  have h2 := Nat.mul_le_mul_left 96 hp.1
  omega
section
variable {P : Program} {w : World} {K : PySem.W.Frag} {mg : Str → Option Value} {base : Heap} {T : List (Addr × Str)} {f : Addr} {fd : FuncData} {k : Nat} {C : Addr}
theorem LeX.updI {W : Addr → Prop} {H H' : Hp} {q C dx : Addr} {fs fs' : List (Str × V)} {C' dx' : Addr} (l : LeX T W H H') (hw : W q) (h : H' q = some (.ins C dx fs)) : LeX T W H (upd H' q (.ins C' dx' fs')) where
  ex := fun b o n hb t => by
    rw [upd_ne (fun z => n (by rw [z]; exact hw))]
    exact l.ex b o n hb t
  tb := fun t => tabs_ins h (l.tb t)
  fr := fun b hb => l.fr b (NdefX.upd_none hb)
def spWayI (T : List (Addr × Str)) (C : Addr) : Sp := fun vs H Q _ => ∃ (a dx : Addr) (p : Prog) (home late : Nat) (i : Ins) (v1 v2 v3 : V), vs = [.ref a, v1, v2, v3] ∧ H a = some (.ins C dx []) ∧ Dt H v1 (encProg p) ∧ Dt H v2 (.int (home : Int)) ∧ Dt H v3 (.int (late : Int)) ∧ ProgOk p ∧ insAt p home late = some i ∧ i.acc = true ∧
  ∀ d H', H d = none → LeX T (At a) H H' → WayAt C H' a p home d → DkP H' d stK encEn (waysM p i home late) → Q .non H'
abbrev nWI : List Str := ["self", "program", "home", "late", "used", "thread"]
theorem s_th : ("threads" : Str) ≠ "home" := by decide +kernel
theorem s_te : ("threads" : Str) ≠ "entries" := by decide +kernel
theorem s_he : ("home" : Str) ≠ "entries" := by decide +kernel
theorem ok_way_init (M : Nm mg) (W : WayT K C) (F : Fun K "__init__" "Ways.__init__" (clsM 19 0) f fd) (M1 : MetC P w K mg base k C "enter" ["self", "state", "place", "ahead"] (spEnter T C)) (M2 : MetC P w K mg base k C "go_on" ["self", "state"] (spGoOn T C)) :
    FnOk P w K mg base CX0 (k + 1) f fd ["self", "program", "home", "late"] (spWayI T C) := by
  have S : FnScope nWI ["self", "program", "home", "late"] (defScope (clsM 19 0)) := ⟨rfl, rfl, rfl, by decide +kernel, rfl, by decide +kernel, by decide +kernel⟩
  refine fun_okW F S (fun vs H Q E h => ?_) fun X cdv A outer s H vs Q E e c hr h => ?_
  · obtain ⟨a, dx, p, home, late, i, v1, v2, v3, rfl, _⟩ := h
    rfl
  subst e
  obtain ⟨a, dx, p, home, late, i, v1, v2, v3, rfl, ha, h1, h2, h3, hp, hi, ai, q⟩ := h
  obtain ⟨r0, hpr0, _⟩ := insAt_row hi
  have hhome : home < p.length := (List.getElem?_eq_some_iff.mp hpr0).1
  have hn6 := hp.1
  have g : Sg H (L2.start nWI [.ref a, v1, v2, v3]) [.v (.ref a), .d (encProg p), .d (.int (home : Int)), .d (.int (late : Int)), .x, .x] :=
    .cons rfl (.cons ⟨_, rfl, h1⟩ (.cons ⟨_, rfl, h2⟩ (.cons ⟨_, rfl, h3⟩ (.cons True.intro (.cons True.intro .nil)))))
  -- self.threads, self.home, self.entries
  refine s_fld (T := T) W.cl W.nT (ev_v 1 g rfl) (ev_v 0 g rfl) ha (by decide) fun u1 H1 l1 k1 => ?_
  obtain ⟨_, e1, k1⟩ := k1
  cases e1
  have ha1 := l1.ins ha
  have t1 := l1.tk.trans (tk_ins (u := .ins C dx (putF "threads" u1 [])) ha1)
  refine s_fld (T := T) W.cl W.nH (ev_v 2 (g.mono t1) rfl) (ev_v 0 (g.mono t1) rfl) upd_same (by show 1 < 100; decide) fun u2 H2 l2 k2 => ?_
  obtain ⟨_, e2, k2⟩ := k2
  cases e2
  obtain rfl := k2.inv_int
  have ha2 := l2.ins (upd_same (H := H1) (o := .ins C dx (putF "threads" u1 [])))
  have t2 := (t1.trans l2.tk).trans (tk_ins (u := .ins C dx (putF "home" (.int (home : Int)) (putF "threads" u1 []))) ha2)
  have lx1 : LeX T (At a) H (upd H1 a (.ins C dx (putF "threads" u1 []))) := LeX.updI (.of l1) rfl ha1
  have lx2 : LeX T (At a) H (upd H2 a (.ins C dx (putF "home" (.int (home : Int)) (putF "threads" u1 [])))) := LeX.updI (lx1.trans (.of l2)) rfl ha2
  refine s_fldD (T := T) W.cl W.nE ev_dnew (ev_v 0 (g.mono t2) rfl) upd_same ?_ fun d H3 hd3 l3 k3 => ?_
  · simp [putF, s_th]
  have ha3 := l3.ins (upd_same (H := H2) (o := .ins C dx (putF "home" (.int (home : Int)) (putF "threads" u1 []))))
  have t3 := (t2.trans l3.tk).trans (tk_ins (u := .ins C dx (putF "entries" (.ref d) (putF "home" (.int (home : Int)) (putF "threads" u1 [])))) ha3)
  have efs : putF "entries" (.ref d) (putF "home" (.int (home : Int)) (putF "threads" u1 [])) = wayF u1 home d := by
    simp [putF, s_th, s_te, s_he]
  rw [efs] at t3 ⊢
  have lx3 : LeX T (At a) H (upd H3 a (.ins C dx (wayF u1 home d))) := LeX.updI (lx2.trans (.of l3)) rfl ha3
  have had : a ≠ d := fun z => by
    rw [z, k3] at ha3
    cases ha3
  generalize hH4 : upd H3 a (.ins C dx (wayF u1 home d)) = H4 at t3 lx3 ⊢
  have g4 := g.mono t3
  have wa4 : WayAt C H4 a p home d := ⟨dx, u1, by rw [← hH4]; exact upd_same, by rw [← hH4]; exact (k1.mono (tk_ins ha1)).mono ((l2.tk.trans (tk_ins ha2)).trans (l3.tk.trans (tk_ins ha3)))⟩
  have dk4 : DkP (α := S2) (β := En) H4 d stK encEn [] := ⟨[], by rw [← hH4, upd_ne (Ne.symm had)]; exact k3, .nil⟩
  have hd0 : H d = none := by
    have h1 := NdefX.upd_none hd3
    have h2 := l2.fr d h1
    exact l1.fr d (NdefX.upd_none h2)
  have wa4' := wa4
  obtain ⟨dx', v0, hins0, hdv0⟩ := wa4'
  -- self.enter((1 << home, home), (home, late), None)
  refine s_exprG (w_meth (T := T) (ss := [.d (encPl (2 ^ home, home)), .d (encPl (home, late)), .d .none]) W.cl M1 hr (ev_v 0 g4 rfl) hins0 rfl ?_ fun vs H5 l5 hv => ?_)
  · refine ea_cons (ev_tup (ds := [.int ((2 ^ home : Nat) : Int), .int (home : Int)]) (ea_cons (ev_shl1 ev_int (ev_v 2 g4 rfl) (by omega)) (ea_1 (ev_v 2 g4 rfl)))) (ea_cons (ev_tup (ds := [.int (home : Int), .int (late : Int)]) (ea_cons (ev_v 2 g4 rfl) (ea_1 (ev_v 3 g4 rfl)))) (ea_1 ev_non))
  cases hv with
  | cons q1 t =>
    cases t with
    | cons q2 t =>
      cases t with
      | cons q3 t =>
        cases t
        obtain ⟨_, e1, q1⟩ := q1
        cases e1
        obtain ⟨_, e2, q2⟩ := q2
        cases e2
        obtain ⟨_, e3, q3⟩ := q3
        cases e3
        refine ⟨a, d, p, home, [], (2 ^ home, home), (home, late), none, i, _, _, _, rfl, wa4.le l5, dk4.le l5, hp, q1, q2, q3, hi, ai, by decide, fun H6 l6 dk6 => ?_⟩
        have lx6 : LeX T (At d) H4 H6 := (LeX.of l5).trans l6
        have g6 := g4.mono (dkP_tk dk4 lx6)
        have wa6 := wa4.lex lx6 dk4
        have hL0 := enterM_le p i (2 ^ home) late none []
        rw [List.length_nil] at hL0
        -- the loops
        refine s_forD (T := T) c (enc := encN) (Ls := List.range (2 ^ p.length)) (ei_range1 (ea_1 (ev_shl1 ev_int (EvD.to (ev_lenT (ev_v 1 g6 rfl) M.len) (by rw [List.length_map])) (by omega))) (by have := pow_le64 hn6; omega) M.range) g6 dk6
          (fun L used => (List.range p.length).foldl (fun L th => goOnM p L (used, th)) L) (fun _ z => z.elim) (fun n x v σ' H' Mx hx hM lx tk gx dkx dv => ?_) fun σ' H' lx tk gx dkx => ?_
        · have hMl : Mx.length ≤ 6 + 576 * 64 := by
            rw [hM]
            have h1 := ways_le p hp (enterM p i (2 ^ home) late none []) ((List.range (2 ^ p.length)).take n)
            have h2 : ((List.range (2 ^ p.length)).take n).length ≤ 64 := by
              rw [List.length_take, List.length_range]
              exact Nat.le_trans (Nat.min_le_right _ _) (pow_le64 hn6)
            have h3 := Nat.mul_le_mul_left 576 h2
            refine Nat.le_trans h1 ?_
            omega
          have hMok : EntsOk p Mx := by
            rw [hM]
            exact foldl_inv _ _ (enterM_ok hp fun z hz => nomatch hz) fun L used _ ih => foldl_inv _ _ ih fun L th _ ih => goOn_ok hp ih
          have wax := wa6.lex lx dk6
          refine g_name (s := .d (.int (x : Int))) c 4 gx ⟨_, rfl, dv⟩ fun σ7 g7 => ?_
          have g7' : Sg H' σ7 [.v (.ref a), .d (encProg p), .d (.int (home : Int)), .d (.int (late : Int)), .d (.int x), .x] := g7
          refine s_forD (T := T) c (enc := encN) (Ls := List.range p.length) (ei_range1 (ea_1 (EvD.to (ev_lenT (ev_v 1 g7' rfl) M.len) (by rw [List.length_map]))) (by omega) M.range) g7' dkx
            (fun L th => goOnM p L (x, th)) (fun _ z => z.elim) (fun m y v' σ8 H8 My hy hMy lx8 tk8 g8 dk8 dv8 => ?_) fun σ8 H8 lx8 tk8 g8 dk8 => ?_
          · have hMyl : My.length < 80000 := by
              rw [hMy]
              have h1 := goRow_le p hp x ((List.range p.length).take m) Mx
              have h2 : ((List.range p.length).take m).length ≤ 6 := by
                rw [List.length_take, List.length_range]
                exact Nat.le_trans (Nat.min_le_right _ _) hn6
              have h3 := Nat.mul_le_mul_left 96 h2
              refine Nat.lt_of_le_of_lt h1 ?_
              omega
            have hMyok : EntsOk p My := by
              rw [hMy]
              exact foldl_inv _ _ hMok fun L th _ ih => goOn_ok hp ih
            have wa8 := wax.lex lx8 dkx
            have wa8' := wa8
            obtain ⟨dx8, v8, hins8, hdv8⟩ := wa8'
            refine g_name (s := .d (.int (y : Int))) c 5 g8 ⟨_, rfl, dv8⟩ fun σ9 g9 => ?_
            have g9' : Sg H8 σ9 [.v (.ref a), .d (encProg p), .d (.int (home : Int)), .d (.int (late : Int)), .d (.int x), .d (.int y)] := g9
            refine s_exprG (w_meth (T := T) (ss := [.d (encPl (x, y))]) W.cl M2 hr (ev_v 0 g9' rfl) hins8 rfl (ea_1 (ev_tup (ds := [.int (x : Int), .int (y : Int)]) (ea_cons (ev_v 4 g9' rfl) (ea_1 (ev_v 5 g9' rfl))))) fun vs H9 l9 hv => ?_)
            cases hv with
            | cons q1 t =>
              cases t
              obtain ⟨_, e1, q1⟩ := q1
              cases e1
              refine ⟨a, d, p, home, My, (x, y), _, rfl, wa8.le l9, dk8.le l9, hp, hMyok, q1, hMyl, fun H10 l10 dk10 => s_nil ?_⟩
              have lx10 : LeX T (At d) H8 H10 := (LeX.of l9).trans l10
              exact ⟨lx10, (g9'.mono (dkP_tk dk8 lx10)).forget 5, dk10⟩
          · exact s_nil ⟨lx8, g8.forget 4, dk8⟩
        · refine s_nil (q d H' hd0 ⟨fun b o hb e nt => ?_, fun t => lx.tb (lx6.tb (lx3.tb t)), fun b hb => lx3.fr b (lx6.fr b (lx.fr b hb))⟩ (wa6.lex lx dk6) dkx)
          have hbd : b ≠ d := fun z => by
            rw [z, hd0] at e
            cases e
          exact lx.ex b o hbd (lx6.ex b o hbd (lx3.ex b o hb e nt) nt) nt
end
end RF
set_option Elab.async false
set_option linter.all false
set_option maxRecDepth 100000
set_option maxHeartbeats 4000000
/-! class Ways: ring_over, ring_to -/
namespace RF
open PySem PySem.Spec L2 LamX
open PyProof.Rows hiding St
open PySem.W (AllAlike Sortable dataLe alike alikeAll)

/-- the chain of the entries goes down -/
def ChOk (L : Ents) : Prop := ∀ s z, look L s = some z → ∀ s', z.2.1 = some s' → (look L s').isSome = true ∧ s'.1 < s.1
theorem optS_non (o : Option S2) : isNonD (optS o) = o.isNone := by cases o <;> rfl
section
variable {P : Program} {w : World} {K : PySem.W.Frag} {mg : Str → Option Value} {base : Heap} {T : List (Addr × Str)} {f : Addr} {fd : FuncData} {k : Nat} {C : Addr}
def spOver (T : List (Addr × Str)) (C : Addr) : Sp := fun vs H Q _ => ∃ (a d : Addr) (p : Prog) (home : Nat) (L : Ents) (st : S2) (x : Nat) (v1 v2 : V), vs = [.ref a, v1, v2] ∧ WayAt C H a p home d ∧ DkP H d stK encEn L ∧ ChOk L ∧
  Dt H v1 (encPl st) ∧ Dt H v2 (.int (x : Int)) ∧ (look L st).isSome = true ∧ st.1 < 1000 ∧ ∀ v H' ds, Le T H H' → Dt H' v (.tuple ds) → Q v H'
abbrev nWO : List Str := ["self", "state", "at", "found", "entry", "ahead", "exit_ahead"]
theorem ok_ring_over (M : Nm mg) (W : WayT K C) (F : Fun K "ring_over" "Ways.ring_over" (clsM 19 4) f fd) : FnOk P w K mg base CX0 (k + 1) f fd ["self", "state", "at"] (spOver T C) := by
  have S : FnScope nWO ["self", "state", "at"] (defScope (clsM 19 4)) := ⟨rfl, rfl, rfl, by decide +kernel, rfl, by decide +kernel, by decide +kernel⟩
  refine fun_okW F S (fun vs H Q E h => ?_) fun X cdv A outer s H vs Q E e c hr h => ?_
  · obtain ⟨a, d, p, home, L, st, x, v1, v2, rfl, _⟩ := h
    rfl
  subst e
  obtain ⟨a, d, p, home, L, st, x, v1, v2, rfl, wa, dk, ch, h1, h2, hst, hlt, q⟩ := h
  have hu := room1 hr
  have g : Sg H (L2.start nWO [.ref a, v1, v2]) [.v (.ref a), .d (encPl st), .d (.int (x : Int)), .x, .x, .x, .x] :=
    .cons rfl (.cons ⟨_, rfl, h1⟩ (.cons ⟨_, rfl, h2⟩ (.cons True.intro (.cons True.intro (.cons True.intro (.cons True.intro .nil))))))
  refine s_setN (T := T) c 3 g (ev_lst (ds := []) ea_nil) fun q0 xs σ1 H1 hq0 l1 hq1 hxs g1 => ?_
  have g1' : Sg H1 σ1 [.v (.ref a), .d (encPl st), .d (.int (x : Int)), .v (.ref q0), .x, .x, .x] := g1
  refine s_while (T := T) c (fun m σ' H' => LeX T (At q0) H1 H' ∧ Tk H1 H' ∧ ∃ (o : Option S2) (x' : Nat) (ds : List PyData) (ys : List V), Sg H' σ' [.v (.ref a), .d (optS o), .d (.int (x' : Int)), .v (.ref q0), .x, .x, .x] ∧ H' q0 = some (.lst ys) ∧ DtL H' ys ds ∧ WayAt C H' a p home d ∧ DkP H' d stK encEn L ∧
      (∀ s, o = some s → (look L s).isSome = true ∧ s.1 < m) ∧ ds.length + m ≤ 1001) 1000 ⟨.refl _, .refl _, some st, x, [], xs, g1', hq1, hxs, wa.le l1, dk.le l1, fun s e => by cases e; exact ⟨hst, hlt⟩, by simp⟩ fun m σ' H' W0 => ?_
  obtain ⟨lx, tk, o, x', ds, ys, g2, hq2, hy, wa2, dk2, ho, hl⟩ := W0
  refine ⟨!isNonD (optS o), EB.t (eb_notND (ev_v 1 g2 rfl)), fun hb H2 l2 => ?_, fun hb H2 l2 => ?_⟩
  · cases o with
    | none => cases hb
    | some s0 =>
      obtain ⟨hs1, hs2⟩ := ho s0 rfl
      obtain ⟨z, hz⟩ := Option.isSome_iff_exists.mp hs1
      have g3 := g2.mono l2.tk
      have g3' : Sg H2 σ' [.v (.ref a), .d (encPl s0), .d (.int (x' : Int)), .v (.ref q0), .x, .x, .x] := g3
      refine s_asg (T := T) (s := .d (encEn z)) (ev_pget (ef := encEn) stK_inj hu (way_ent W (wa2.le l2) (ev_v 0 g3' rfl)) (dk2.le l2) (ev_v 1 g3' rfl) hz) fun v H3 l3 hv => g_tup3 c 4 5 6 (g3'.mono l3.tk) hv fun σ4 g4 => ?_
      have g4' : Sg H3 σ4 [.v (.ref a), .d (encPl s0), .d (.int (x' : Int)), .v (.ref q0), .d (.int (z.1 : Int)), .d (optS z.2.1), .d (.int (z.2.2 : Int))] := g4
      have l23 := l2.trans l3
      have hq3 := l23.lst hq2
      have hyl := hy.len
      refine s_append (T := T) (ev_v 3 g4' rfl) hq3 (by omega) (ev_tup (ds := [.int (s0.2 : Int), .int (z.1 : Int), .int (x' : Int)]) (ea_cons (ev_ix (ev_v 1 g4' rfl) ev_int rfl) (ea_cons (ev_v 4 g4' rfl) (ea_1 (ev_v 2 g4' rfl))))) fun v9 H9 l9 hv9 => ?_
      obtain ⟨_, e9, hv9⟩ := hv9
      cases e9
      have hp9 := l9.lst hq3
      have t9 : Tk H3 (upd H9 q0 (.lst (ys ++ [v9]))) := l9.tk.trans (tk_lst hp9)
      have g9 := g4'.mono t9
      have l39 : LeX T (At q0) H1 (upd H9 q0 (.lst (ys ++ [v9]))) := LeX.updL (lx.trans (.of (l23.trans l9))) rfl hp9
      have dneq : ∀ {Hx : Hp}, DkP Hx d stK encEn L → Hx q0 = some (.lst ys) → d ≠ q0 := fun z1 z2 e => by
        obtain ⟨kvs, hk, _⟩ := z1
        rw [e, z2] at hk
        cases hk
      have aneq : ∀ {Hx : Hp}, WayAt C Hx a p home d → Hx q0 = some (.lst ys) → a ≠ q0 := fun z1 z2 e => by
        obtain ⟨dx, v, hk, _⟩ := z1
        rw [e, z2] at hk
        cases hk
      have dk9 := (dk2.le l23).le l9
      have wa9 := (wa2.le l23).le l9
      have n1 := dneq dk9 hp9
      have n2 := aneq wa9 hp9
      have dk9' : DkP (upd H9 q0 (.lst (ys ++ [v9]))) d stK encEn L := by
        obtain ⟨kvs, hk, hr'⟩ := dk9
        exact ⟨kvs, by rw [upd_ne n1]; exact hk, hr'.mono (tk_lst hp9)⟩
      have wa9' : WayAt C (upd H9 q0 (.lst (ys ++ [v9]))) a p home d := by
        obtain ⟨dx, v, hk, hd⟩ := wa9
        exact ⟨dx, v, by rw [upd_ne n2]; exact hk, hd.mono (tk_lst hp9)⟩
      refine s_par (T := T) c 1 2 g9 (ev_v 5 g9 rfl) (ev_v 6 g9 rfl) fun u1 u2 σ10 H10 l10 _ _ g10 => s_nil ?_
      refine ⟨s0.1, hs2, l39.trans (.of l10), (tk.trans (l23.tk.trans (l9.tk.trans (tk_lst hp9)))).trans l10.tk, z.2.1, z.2.2, ds ++ [.tuple [.int (s0.2 : Int), .int (z.1 : Int), .int (x' : Int)]], ys ++ [v9], (((g10.forget 4).forget 5).forget 6), l10.lst upd_same, ?_, wa9'.le l10, dk9'.le l10, fun s' e => ?_, ?_⟩
      · exact (((hy.mono (l23.trans l9).tk).append (.cons hv9 .nil)).mono (tk_lst hp9)).mono l10.tk
      · exact ch s0 z hz s' e
      · rw [List.length_append]
        simp only [List.length_cons, List.length_nil]
        omega
  · have lf : Le T H H2 := (lx.le l1 fun b hb => by rw [show b = q0 from hb]; exact hq0).trans l2
    exact s_retD (T := T) (ev_tupN (ev_revL (ev_v 3 (g2.mono l2.tk) rfl) (l2.lst hq2) (hy.mono l2.tk)) M.tuple) fun v H4 l4 hv => q v H4 _ (lf.trans l4) hv

/-! ring_to -/
def hitAt (p : Prog) (j : Ins) (s : S2) (a : Nat) : Bool := match insAt p s.2 a with
  | some i => meetI i j
  | none => false
def hitS (p : Prog) (j : Ins) (L : Ents) (s : S2) : Bool := match look L s with
  | some z => (exitsM (p.getD s.2 []) z.1).any (hitAt p j s)
  | none => false
def hitM (p : Prog) (j : Ins) (L : Ents) : Bool := (L.map (·.1)).any (hitS p j L)
def spRingTo (T : List (Addr × Str)) (C : Addr) : Sp := fun vs H Q _ => ∃ (a d : Addr) (p : Prog) (home early : Nat) (L : Ents) (j : Ins) (v1 : V), vs = [.ref a, v1] ∧ WayAt C H a p home d ∧ DkP H d stK encEn L ∧ ChOk L ∧ EntsOk p L ∧ ProgOk p ∧
  (∀ z ∈ L, z.1.1 < 1000) ∧ L.length < 90000 ∧ Dt H v1 (.int (early : Int)) ∧ insAt p home early = some j ∧ j.acc = true ∧
  ∀ v H', Le T H H' → (hitM p j L = false → v = .non) → (hitM p j L = true → ∃ ds, Dt H' v (.tuple ds)) → Q v H'
abbrev nWR : List Str := ["self", "early", "goal", "state", "thread", "at"]
theorem alike_encPl (L : List S2) : AllAlike (L.map encPl) := PySem.W.AllAlike.of fun b b' => by simp [alike, alikeAll]
theorem sortable_encPl (L : List S2) : Sortable (L.map encPl) := PySem.W.Sortable.tuples (enc := encPl) fun b => ⟨_, _, rfl⟩
theorem ok_ring_to (M : Nm mg) (W : WayT K C) (F : Fun K "ring_to" "Ways.ring_to" (clsM 19 3) f fd) (C1 : Cal P w K mg base k "exits_from" ["instructions", "entry"] (spRL T 2 rExits)) (C2 : Cal P w K mg base k "meets" ["program", "one", "other"] (spR T 3 rMeets)) (M1 : MetC P w K mg base k C "ring_over" ["self", "state", "at"] (spOver T C)) :
    FnOk P w K mg base CX0 (k + 1) f fd ["self", "early"] (spRingTo T C) := by
  have S : FnScope nWR ["self", "early"] (defScope (clsM 19 3)) := ⟨rfl, rfl, rfl, by decide +kernel, rfl, by decide +kernel, by decide +kernel⟩
  refine fun_okW F S (fun vs H Q E h => ?_) fun X cdv A outer s H vs Q E e c hr h => ?_
  · obtain ⟨a, d, p, home, early, L, j, v1, rfl, _⟩ := h
    rfl
  subst e
  obtain ⟨a, d, p, home, early, L, j, v1, rfl, wa, dk, ch, eo, hp, hb, hL, h1, hj, aj, q⟩ := h
  have hu := room1 hr
  have g : Sg H (L2.start nWR [.ref a, v1]) [.v (.ref a), .d (.int (early : Int)), .x, .x, .x, .x] := .cons rfl (.cons ⟨_, rfl, h1⟩ (.cons True.intro (.cons True.intro (.cons True.intro (.cons True.intro .nil)))))
  refine s_set (T := T) c 2 g (s := .d (encPl (home, early))) (ev_tup (ds := [.int (home : Int), .int (early : Int)]) (ea_cons (way_home W wa (ev_v 0 g rfl)) (ea_1 (ev_v 1 g rfl)))) fun v2 σ1 H1 l1 _ g1 => ?_
  have g1' : Sg H1 σ1 [.v (.ref a), .d (.int (early : Int)), .d (encPl (home, early)), .x, .x, .x] := g1
  have wa1 := wa.le l1
  have dk1 := dk.le l1
  have dk1' := dk1
  obtain ⟨kvs, hk, hrow⟩ := dk1'
  refine s_forP (T := T) c (enc := encPl) (L := (L.map (·.1)).mergeSort (dataLe false encPl)) (ei_new (EvL.to (ev_sorted (T := T) (enc := encPl) (bs := L.map fun z => z.1) (EvC.to (ec_dict (way_ent W wa1 (ev_v 0 g1' rfl)) hk) (by rw [hrow.keys, List.map_map, List.map_map]; rfl)) (alike_encPl _) (sortable_encPl _) (by rw [List.length_map]; omega) hr (fun b _ => by simp [PyData.depth, PyData.depthAll]) M.sorted) rfl)) g1'
    (fun n => ∀ m s, m < n → ((L.map (·.1)).mergeSort (dataLe false encPl))[m]? = some s → hitS p j L s = false) (fun m s hm _ => absurd hm (Nat.not_lt_zero m))
    (fun H2 l2 n x v σ' H' hx hP l3 g3 dv => ?_) fun σ' H' hP l3 g3 => ?_
  · have hxm : x ∈ L.map (·.1) := List.mem_mergeSort.mp (List.mem_of_getElem? hx)
    obtain ⟨⟨x', z'⟩, hz', rfl⟩ := List.mem_map.mp hxm
    obtain ⟨z, hz⟩ : ∃ z, look L x' = some z := by
      cases hh : look L x' with
      | none => exact absurd rfl (look_none hh _ hz')
      | some z => exact ⟨z, rfl⟩
    have hzo := eo _ (look_mem hz)
    obtain ⟨r, hpr⟩ : ∃ r, p[x'.2]? = some r := ⟨_, List.getElem?_eq_getElem hzo.1⟩
    have hgd : p.getD x'.2 [] = r := by rw [List.getD_eq_getElem?_getD, hpr]; rfl
    have hR : RowOk r := hp.row (List.mem_of_getElem? hpr)
    have wa3 := (wa1.le l2).le l3
    have dk3 := (dk1.le l2).le l3
    refine g_name (s := .d (encPl x')) c 3 g3 ⟨_, rfl, dv⟩ fun σ4 g4 => ?_
    have g4' : Sg H' σ4 [.v (.ref a), .d (.int (early : Int)), .d (encPl (home, early)), .d (encPl x'), .x, .x] := g4
    refine s_set (T := T) c 4 g4' (s := .d (.int (x'.2 : Int))) (ev_ix (ev_v 3 g4' rfl) ev_int rfl) fun v5 σ5 H5 l5 _ g5 => ?_
    have g5' : Sg H5 σ5 [.v (.ref a), .d (.int (early : Int)), .d (encPl (home, early)), .d (encPl x'), .d (.int (x'.2 : Int)), .x] := g5
    have wa5 := wa3.le l5
    have dk5 := dk3.le l5
    refine s_forP (T := T) c (enc := encN) (L := exitsM r z.1) (ei_new (ev_callRL (ds := [encRow r, .int (z.1 : Int)]) C1 hr (ea_cons (ev_ix (way_thr W wa5 (ev_v 0 g5' rfl)) (ev_v 4 g5' rfl) (atI_map hpr)) (ea_1 (ev_ix (ds := [.int (z.1 : Int), optS z.2.1, .int (z.2.2 : Int)]) (ev_pget (ef := encEn) stK_inj hu (way_ent W wa5 (ev_v 0 g5' rfl)) dk5 (ev_v 3 g5' rfl) hz) ev_int rfl))) ⟨r, z.1, hR, rfl, hzo.2, rfl⟩)) g5'
      (fun n => ∀ m b, m < n → (exitsM r z.1)[m]? = some b → hitAt p j x' b = false) (fun m b hm _ => absurd hm (Nat.not_lt_zero m))
      (fun H6 l6 n6 b v6 σ6 H7 hb6 hP6 l7 g7 dv6 => ?_) fun σ6 H7 hP6 l7 g7 => s_nil ?_
    · obtain ⟨hge, i, hi, ai⟩ := exits_good (List.mem_of_getElem? hb6)
      have hins : insAt p x'.2 b = some i := by unfold insAt; rw [hpr]; exact hi
      have hha : hitAt p j x' b = meetI i j := by unfold hitAt; rw [hins]
      have l57 := l6.trans l7
      have wa7 := wa5.le l57
      have dk7 := dk5.le l57
      refine g_name (s := .d (.int (b : Int))) c 5 g7 ⟨_, rfl, dv6⟩ fun σ8 g8 => ?_
      have g8' : Sg H7 σ8 [.v (.ref a), .d (.int (early : Int)), .d (encPl (home, early)), .d (encPl x'), .d (.int (x'.2 : Int)), .d (.int b)] := g8
      refine s_if0 (T := T) (k := meetI i j) (eb_val (ev_callR (ds := [encProg p, encPl (x'.2, b), encPl (home, early)]) C2 hr (ea_cons (way_thr W wa7 (ev_v 0 g8' rfl)) (ea_cons (ev_tup (ds := [.int (x'.2 : Int), .int (b : Int)]) (ea_cons (ev_v 4 g8' rfl) (ea_1 (ev_v 5 g8' rfl)))) (ea_1 (ev_v 2 g8' rfl)))) ⟨p, x'.2, b, home, early, i, j, hins, hj, ai, aj, rfl, rfl⟩)) (fun h H9 l9 => ?_) fun h H9 l9 => s_nil ⟨l7.trans l9, (g8'.mono l9.tk).forget 5, fun m b' hm hb' => ?_⟩
      · have g9 := g8'.mono l9.tk
        have wa9 := wa7.le l9
        have dk9 := dk7.le l9
        have wa9' := wa9
        obtain ⟨dx, v0, hins0, hdv0⟩ := wa9'
        refine s_cons (w_ps (ps_ret pe_w) (w_meth (T := T) (ss := [.d (encPl x'), .d (.int (b : Int))]) W.cl M1 hr (ev_v 0 g9 rfl) hins0 rfl (ea_cons (ev_v 3 g9 rfl) (ea_1 (ev_v 5 g9 rfl))) fun vs H10 l10 hv => ?_))
        cases hv with
        | cons q1 t =>
          cases t with
          | cons q2 t =>
            cases t
            obtain ⟨_, e1, q1⟩ := q1
            cases e1
            obtain ⟨_, e2, q2⟩ := q2
            cases e2
            refine ⟨a, d, p, home, L, x', b, _, _, rfl, wa9.le l10, dk9.le l10, ch, q1, q2, by rw [hz]; rfl, hb _ hz', fun v11 H11 ds l11 hv11 => ?_⟩
            have hit : hitM p j L = true := by
              unfold hitM
              refine List.any_eq_true.mpr ⟨x', hxm, ?_⟩
              unfold hitS
              rw [hz, hgd]
              exact List.any_eq_true.mpr ⟨b, List.mem_of_getElem? hb6, by rw [hha]; exact h⟩
            refine q v11 H11 (l1.trans (l2.trans (l3.trans (l5.trans (l57.trans (l9.trans (l10.trans l11))))))) (fun z => by rw [hit] at z; cases z) fun _ => ⟨ds, hv11⟩
      · rcases Nat.lt_succ_iff_lt_or_eq.mp hm with y | y
        · exact hP6 m b' y hb'
        · subst y
          rw [hb6] at hb'
          cases hb'
          rw [hha]
          exact h
    · refine ⟨l3.trans (l5.trans l7), ((g7.forget 3).forget 4), fun m s' hm hs' => ?_⟩
      rcases Nat.lt_succ_iff_lt_or_eq.mp hm with y | y
      · exact hP m s' y hs'
      · subst y
        rw [hx] at hs'
        cases hs'
        unfold hitS
        rw [hz, hgd]
        refine List.any_eq_false.mpr fun b hb' => ?_
        obtain ⟨m', hm'⟩ := List.mem_iff_getElem?.mp hb'
        rw [hP6 m' b (List.getElem?_eq_some_iff.mp hm').1 hm']
        exact Bool.false_ne_true
  · have hit : hitM p j L = false := by
      unfold hitM
      refine List.any_eq_false.mpr fun x hx => ?_
      obtain ⟨m, hm⟩ := List.mem_iff_getElem?.mp (List.mem_mergeSort (le := dataLe false encPl).mpr hx)
      rw [hP m x (List.getElem?_eq_some_iff.mp hm).1 hm]
      exact Bool.false_ne_true
    refine s_ret (T := T) ev_non fun v H4 l4 hv => ?_
    obtain ⟨_, e, hv⟩ := hv
    cases e
    obtain rfl := hv.inv_non
    exact q _ H4 (l1.trans (l3.trans l4)) (fun _ => rfl) fun z => by rw [hit] at z; cases z
end
end RF
set_option Elab.async false
set_option linter.all false
set_option maxRecDepth 100000
set_option maxHeartbeats 4000000
/-! rings_of, live_pairs -/
namespace RF
open PySem PySem.Spec L2 LamX
open PyProof.Rows hiding St
open PySem.W (AllAlike Sortable dataLe alike alikeAll)

/-! ### the entries hold together -/
theorem free_lt {used other : Nat} (h : freeBit used other = true) : used < used ||| 2 ^ other := by
  unfold freeBit at h
  simp only [decide_eq_true_eq] at h
  have h1 : used.testBit other = false := by rw [Nat.testBit_eq_decide_div_mod_eq]; simp [h]
  have h2 : (used ||| 2 ^ other).testBit other = true := by simp
  refine Nat.lt_of_le_of_ne Nat.left_le_or fun e => ?_
  rw [← e, h1] at h2
  cases h2
structure EntsAll (p : Prog) (L : Ents) : Prop where
  ok : EntsOk p L
  ch : ChOk L
  lt : ∀ z ∈ L, z.1.1 < 2 ^ p.length
theorem enterOne_some {p : Prog} {i : Ins} {used x other : Nat} {ahead : Option S2} {L : Ents} {s : S2} (h : (look L s).isSome = true) : (look (enterOne p i used x ahead L other) s).isSome = true := by
  unfold enterOne
  split
  · exact h
  · split
    · rw [look_put]
      split
      · rfl
      · exact h
    · exact h
theorem enterOne_all {p : Prog} (hp : ProgOk p) {i : Ins} {used x other : Nat} {ahead : Option S2} {L : Ents} (ho : other < p.length) (hu : used < 2 ^ p.length) (ha : ∀ s', ahead = some s' → (look L s').isSome = true ∧ s'.1 = used) (h : EntsAll p L) : EntsAll p (enterOne p i used x ahead L other) := by
  refine ⟨enterOne_ok hp ho h.ok, ?_, ?_⟩
  · have keep := @enterOne_some p i used x other ahead L
    intro s z hs s' hz
    unfold enterOne at hs
    cases he : entM p i used other with
    | none =>
      rw [he] at hs
      obtain ⟨h1, h2⟩ := h.ch s z hs s' hz
      exact ⟨keep h1, h2⟩
    | some en =>
      rw [he] at hs
      have hf : freeBit used other = true := by
        unfold entM at he
        split at he
        · rename_i hh; exact hh
        · cases he
      simp only at hs
      split at hs
      · rw [look_put] at hs
        split at hs
        · rename_i hh
          cases hs
          obtain ⟨h1, h2⟩ := ha s' hz
          refine ⟨keep h1, ?_⟩
          rw [h2, hh]
          exact free_lt hf
        · obtain ⟨h1, h2⟩ := h.ch s z hs s' hz
          exact ⟨keep h1, h2⟩
      · obtain ⟨h1, h2⟩ := h.ch s z hs s' hz
        exact ⟨keep h1, h2⟩
  · unfold enterOne
    split
    · exact h.lt
    · split
      · intro z hz
        rcases putA_mem hz with hz | rfl
        · exact h.lt z hz
        · show used ||| 2 ^ other < 2 ^ p.length
          exact Nat.or_lt_two_pow hu (Nat.pow_lt_pow_right (by decide) ho)
      · exact h.lt
theorem enterM_all {p : Prog} (hp : ProgOk p) {i : Ins} {used x : Nat} {ahead : Option S2} {L : Ents} (hu : used < 2 ^ p.length) (ha : ∀ s', ahead = some s' → (look L s').isSome = true ∧ s'.1 = used) (h : EntsAll p L) : EntsAll p (enterM p i used x ahead L) ∧ ∀ s, (look L s).isSome = true → (look (enterM p i used x ahead L) s).isSome = true := by
  have := foldl_inv (f := enterOne p i used x ahead) (I := fun M => EntsAll p M ∧ ∀ s, (look L s).isSome = true → (look M s).isSome = true) (List.range p.length) L ⟨h, fun s hs => hs⟩ fun M b hb ih =>
    ⟨enterOne_all hp (List.mem_range.mp hb) hu (fun s' e => ⟨ih.2 s' (ha s' e).1, (ha s' e).2⟩) ih.1, fun s hs => enterOne_some (ih.2 s hs)⟩
  exact this
theorem goOn_all {p : Prog} (hp : ProgOk p) {st : S2} {L : Ents} (hst : st.1 < 2 ^ p.length) (h : EntsAll p L) : EntsAll p (goOnM p L st) := by
  unfold goOnM
  cases hl : look L st with
  | none => exact h
  | some z =>
    simp only
    have := foldl_inv (f := goStep p st) (I := fun M => EntsAll p M ∧ (look M st).isSome = true) (exitsM (p.getD st.2 []) z.1) L ⟨h, by rw [hl]; rfl⟩ fun M b _ ih => by
      unfold goStep
      split
      · have q := enterM_all hp (i := by assumption) (x := b) (ahead := some st) hst (fun s' e => by cases e; exact ⟨ih.2, rfl⟩) ih.1
        exact ⟨q.1, q.2 st ih.2⟩
      · exact ih
    exact this.1
theorem ways_all {p : Prog} (hp : ProgOk p) {i : Ins} {home late : Nat} (hh : home < p.length) : EntsAll p (waysM p i home late) := by
  unfold waysM
  refine foldl_inv _ _ (enterM_all hp (Nat.pow_lt_pow_right (by decide) hh) (fun s' e => by cases e) ⟨(fun z hz => by cases hz), (fun s z hs => by cases hs), (fun z hz => by cases hz)⟩).1 fun L used hu ih => ?_
  exact foldl_inv _ _ ih fun L th _ ih => goOn_all hp (List.mem_range.mp hu) ih
theorem waysM_le (p : Prog) (hp : ProgOk p) (i : Ins) (home late : Nat) : (waysM p i home late).length < 90000 := by
  have h1 := ways_le p hp (enterM p i (2 ^ home) late none []) (List.range (2 ^ p.length))
  have h2 := enterM_le p i (2 ^ home) late none []
  have h3 := pow_le64 hp.1
  have h4 := hp.1
  rw [List.length_range] at h1
  rw [List.length_nil] at h2
  have h5 := Nat.mul_le_mul_left 576 h3
  refine Nat.lt_of_le_of_lt h1 ?_
  omega
/-! ### the live pairs -/
def ringB (p : Prog) (x : Tri) : Bool := match insAt p x.1 x.2.2, insAt p x.1 x.2.1 with
  | some i, some j => hitM p j (waysM p i x.1 x.2.2)
  | _, _ => false
def liveStep (p : Prog) (M : List Tri) (x : Tri) : List Tri := if ringB p x = true then (if x ∈ M then M else M ++ [x]) else M
def liveM (p : Prog) (wd : Str) (room : Int) : List Tri := (looseM p wd room).foldl (liveStep p) []
abbrev triK (x : Tri) : List Key := [.inl (x.1 : Int), .inl (x.2.1 : Int), .inl (x.2.2 : Int)]
theorem triK_inj {a b : Tri} (h : triK a = triK b) : a = b := by
  obtain ⟨a1, a2, a3⟩ := a
  obtain ⟨b1, b2, b3⟩ := b
  simp only [triK, List.cons.injEq, Sum.inl.injEq, Int.natCast_inj, and_true] at h
  rw [h.1, h.2.1, h.2.2]
theorem loose_mem {p : Prog} {wd : Str} {room : Int} {x : Tri} (h : x ∈ looseM p wd room) : ∃ i j, insAt p x.1 x.2.1 = some i ∧ insAt p x.1 x.2.2 = some j ∧ i.isSt = true ∧ j.acc = true ∧ x.2.1 < x.2.2 := by
  unfold looseM at h
  obtain ⟨⟨r, t⟩, hr, hx⟩ := List.mem_flatMap.mp h
  have hpt := (mem_zipIdx_row hr).2
  unfold looseR at hx
  obtain ⟨e, _, hx⟩ := List.mem_flatMap.mp hx
  unfold looseE at hx
  obtain ⟨l, hl, hx⟩ := List.mem_flatMap.mp hx
  split at hx
  · rename_i ht
    have hx' : x = (t, e, l) := by simpa using hx
    subst hx'
    unfold tst at ht
    cases hi : r[e]? with
    | none => rw [hi] at ht; simp at ht
    | some i =>
      cases hj : r[l]? with
      | none => rw [hi, hj] at ht; simp at ht
      | some j =>
        rw [hi, hj] at ht
        simp only [Bool.and_eq_true] at ht
        have hpt' : p[t]? = some r := hpt
        have h1 := ht.1
        unfold turnM at h1
        simp only [Bool.and_eq_true, Bool.not_eq_true', Bool.or_eq_false_iff, Bool.not_eq_false'] at h1
        refine ⟨i, j, by unfold insAt; rw [hpt']; exact hi, by unfold insAt; rw [hpt']; exact hj, h1.1.1.1, h1.1.1.2.1, ?_⟩
        have := (List.mem_range'_1.mp hl).1
        show e < l
        omega
  · simp at hx
theorem any_keys (kvs : List (List Key × V)) (k : List Key) : (kvs.any fun kv => decide (kv.1 = k)) = true ↔ k ∈ kvs.map (·.1) := by
  rw [List.any_eq_true, List.mem_map]
  simp
theorem putK_in {kvs : List (List Key × V)} {k : List Key} (v : V) (h : k ∈ kvs.map (·.1)) : (putK kvs k v).map (·.1) = kvs.map (·.1) := by
  unfold putK
  rw [if_pos ((any_keys kvs k).mpr h), List.map_map]
  refine List.map_congr_left fun kv _ => ?_
  simp only [Function.comp]
  split <;> rfl
theorem putK_out {kvs : List (List Key × V)} {k : List Key} (v : V) (h : k ∉ kvs.map (·.1)) : (putK kvs k v).map (·.1) = kvs.map (·.1) ++ [k] := by
  unfold putK
  rw [if_neg (fun z => h ((any_keys kvs k).mp z)), List.map_append]
  rfl
theorem mem_triK {x : Tri} {M : List Tri} : triK x ∈ M.map triK ↔ x ∈ M := by
  rw [List.mem_map]
  exact ⟨fun ⟨y, hy, e⟩ => triK_inj e ▸ hy, fun h => ⟨x, h, rfl⟩⟩
/-! the dict of the Ways -/
abbrev W2 (d e : Addr) : Addr → Prop := fun b => b = d ∨ b = e
def WDk (C : Addr) (H : Hp) (df dw : Addr) (p : Prog) (M : List (S2 × Addr)) : Prop := H dw = some (.dT (M.map fun q => (stK q.1, V.ref q.2))) ∧ ∀ q ∈ M, ∃ d i, WayAt C H q.2 p q.1.1 d ∧ d ≠ df ∧ d ≠ dw ∧ insAt p q.1.1 q.1.2 = some i ∧ DkP H d stK encEn (waysM p i q.1.1 q.1.2)
theorem ref_look (s : S2) : ∀ M : List (S2 × Addr), valV (M.map fun q => (stK q.1, V.ref q.2)) (stK s) = (look M s).map V.ref
  | [] => rfl
  | q :: M => by
    rw [List.map_cons, look_cons]
    by_cases e : q.1 = s
    · rw [if_pos e, valV_pos (by rw [e])]
      rfl
    · rw [if_neg e, valV_neg (fun z => e (stK_inj _ _ z)), ref_look s M]
theorem ref_put (s : S2) (a : Addr) (M : List (S2 × Addr)) (h : look M s = none) : putK (M.map fun q => (stK q.1, V.ref q.2)) (stK s) (.ref a) = (M ++ [(s, a)]).map fun q => (stK q.1, V.ref q.2) := by
  rw [putK_new _ (by rw [ref_look, h]; rfl), List.map_append]
  rfl
section
variable {T : List (Addr × Str)} {X : Cx} {e o i : Expr} {σ : St} {H H' : Hp} {δ : List Sl} {pos pos' : Pos} {rest : List Stmt} {D : Ends} {q : Addr} {kvs : List (List Key × V)} {k : List Key} {C df dw : Addr} {p : Prog} {M : List (S2 × Addr)}
/-- what is written is no tuple, no instance -/
theorem w2_tk {kv1 kv2 : List (List Key × V)} (h1 : H df = some (.dT kv1)) (h2 : H dw = some (.dT kv2)) (l : LeX T (W2 df dw) H H') : Tk H H' := l.tk fun b ys e z => by
  rcases e with e | e
  · rw [e, h1] at z; cases z
  · rw [e, h2] at z; cases z
/-- name = e, whatever e does -/
theorem s_setG (c : Fx X) (i : Nat) {x : Str} (h : wE X e σ H fun v H' => wSs X rest D (σ.set i (some v)) H') (hi : X.N[i]? = some x := by rfl)
    (hx : Loc X.env.scope x := by first | exact Or.inl rfl | exact Or.inr rfl) (hs : swapsWith e (some (.Name x pos')) pos.line X.env = pure false := by rfl) (hf : X.fn x = true ∨ X.env.scope.names.lookup x = some .local := by first | exact .inl rfl | exact .inr rfl) :
    wSs X (.Assign [.Name x pos'] e pos :: rest) D σ H := s_cons (w_ps (ps_set c.nd hi hx pe_w hs hf) h)
/-- d[i] = e, whatever e does -/
theorem s_dputG {Φ : V → Hp → Prop} (hu : X.A.units + 1 < cLine) (he : wE X e σ H fun v H1 => Le T H H1 ∧ Φ v H1) (ho : Ev T X o σ H (.v (.ref q))) (hq : H q = some (.dT kvs)) (hi : EvD T X i σ H (keyD k)) (hl : kvs.length < 100000)
    (kk : ∀ v H1 H', Le T H H1 → Φ v H1 → Le T H1 H' → wSs X rest D σ (upd H' q (.dT (putK kvs k v)))) (hs : swapsWith e (some (.Subscript o i pos')) pos.line X.env = pure false := by rfl) :
    wSs X (.Assign [.Subscript o i pos'] e pos :: rest) D σ H := by
  refine s_cons (w_ps (ps_dput hu pe_w pe_w pe_w hs) (he.imp fun v H1 ⟨l1, h1⟩ => ?_))
  refine ho H1 l1 _ fun x H2 l2 h2 => hi H2 (l1.trans l2) _ fun y H3 l3 h3 => ?_
  have e : some x = some (V.ref q) := h2
  cases e
  obtain ⟨_, e, h3⟩ := h3
  cases e
  obtain ⟨b, rfl, hb⟩ := key_at h3
  exact ⟨q, _, rfl, DPut.t (((l1.trans l2).trans l3).dct hq) hb (Nat.lt_of_lt_of_le hl (by rw [sizeLine_eq]; decide)), kk v H1 H3 l1 h1 (l2.trans l3)⟩
/-- x, y = {}, {} -/
theorem s_parD (c : Fx X) (i j : Nat) (g : Sg H σ δ) {x y : Str} {a b : Expr} {px py pt : Pos} {kt k2 : Nat} {pt2 : Pos} {kv1 kv2 : List (List Key × V)} (ha : EvDn T X a σ H kv1) (hb : EvDn T X b σ H kv2)
    (k : ∀ p1 p2 σ' H', H p1 = none → H p2 = none → p1 ≠ p2 → Le T H H' → H' p1 = some (.dT kv1) → H' p2 = some (.dT kv2) → Sg H' σ' ((δ.set i (.v (.ref p1))).set j (.v (.ref p2))) → wSs X rest D σ' H') (hij : i ≠ j := by decide) (hi : X.N[i]? = some x := by rfl) (hj : X.N[j]? = some y := by rfl) (hx : X.env.scope.names.lookup x = some .local := by rfl) (hy : X.env.scope.names.lookup y = some .local := by rfl)
    (hw : swappedStores [.Tuple [.Name x px, .Name y py] kt pt] (.Tuple [a, b] k2 pt2) X.env = pure (some [x, y]) := by rfl) (hs : swapsWithSole [.Tuple [.Name x px, .Name y py] kt pt] (.Tuple [a, b] k2 pt2) pos.line X.env = pure false := by rfl)
    (h1 : starEach [a, b] X.env = (false, eval a X.env) :: starEach [b] X.env := by rfl) (h2 : starEach [b] X.env = (false, eval b X.env) :: starEach [] X.env := by rfl) :
    wSs X (.Assign [.Tuple [.Name x px, .Name y py] kt pt] (.Tuple [a, b] k2 pt2) pos :: rest) D σ H := by
  refine s_cons (w_ps (ps_par c.calm c.nd hi hj hij hx hy pa_w hw hs) (w_pa (pa_cons pe_w (pa_cons pe_w pa_nil h2) h1) ?_))
  refine ha H (.refl H) _ fun p1 H1 n1 l1 g1 => hb H1 l1 _ fun p2 H2 n2 l2 g2 => ?_
  exact ⟨_, _, rfl, k p1 p2 _ H2 n1 (l1.fr _ n2) (fun z => by rw [← z, g1] at n2; cases n2) (l1.trans l2) (l2.dct g1) g2 (((g.mono (l1.trans l2).tk).set (s := .v (.ref p1)) rfl i).set (s := .v (.ref p2)) rfl j)⟩
theorem WDk.lex {kv1 kv2 : List (List Key × V)} (h1 : H df = some (.dT kv1)) (h2 : H dw = some (.dT kv2)) (l : LeX T (W2 df dw) H H') {M' : List (S2 × Addr)} (hw : H' dw = some (.dT (M'.map fun q => (stK q.1, V.ref q.2)))) (hM : ∀ q ∈ M', q ∈ M) (x : WDk C H df dw p M) : WDk C H' df dw p M' := by
  refine ⟨hw, fun q hq => ?_⟩
  obtain ⟨d, i, w1, w2, w3, w4, w5⟩ := x.2 q (hM q hq)
  have tk := w2_tk h1 h2 l
  refine ⟨d, i, ?_, w2, w3, w4, ?_⟩
  · obtain ⟨dx, v, k1, k2⟩ := w1
    refine ⟨dx, v, l.ex _ _ (fun z => ?_) k1 (fun _ z => by cases z), k2.mono tk⟩
    rcases z with z | z
    · rw [z, h1] at k1; cases k1
    · rw [z, h2] at k1; cases k1
  · obtain ⟨kvs, k1, k2⟩ := w5
    exact ⟨kvs, l.ex _ _ (fun z => z.elim w2 w3) k1 (fun _ z => by cases z), k2.mono tk⟩
theorem WDk.le (l : Le T H H') (x : WDk C H df dw p M) : WDk C H' df dw p M :=
  ⟨l.dct x.1, fun q hq => let ⟨d, i, w1, w2, w3, w4, w5⟩ := x.2 q hq; ⟨d, i, w1.le l, w2, w3, w4, w5.le l⟩⟩
end

section
variable {P : Program} {w : World} {K : PySem.W.Frag} {mg : Str → Option Value} {base : Heap} {T : List (Addr × Str)} {f : Addr} {fd : FuncData} {k : Nat} {C : Addr}
def spRings (T : List (Addr × Str)) : Sp := fun vs H Q _ => ∃ (p : Prog) (wd : Str) (room : Int) (v1 v2 : V), vs = [v1, v2] ∧ ProgOk p ∧ Dt H v1 (encProg p) ∧ Dt H v2 (encBuf wd room) ∧
  ∀ r H' kvs, H r = none → Le T H H' → H' r = some (.dT kvs) → kvs.map (·.1) = (liveM p wd room).map triK → Q (.ref r) H'
abbrev nRg : List Str := ["program", "buffers", "found", "ways", "pair", "thread", "early", "late", "ring"]
theorem liveStep_le (p : Prog) (M : List Tri) (x : Tri) : (liveStep p M x).length ≤ M.length + 1 := by
  unfold liveStep
  split
  · split
    · omega
    · rw [List.length_append]; exact Nat.le_refl _
  · omega
theorem ok_rings_of (M : Nm mg) (W : WayT K C) (F : Fun K "rings_of" "rings_of" (topS 20) f fd) (C1 : Cal P w K mg base k "loose_pairs" ["program", "buffers"] (spR T 2 rLoose)) (M0 : MakC P w K mg base k "Ways" C ["self", "program", "home", "late"] (spWayI T C)) (M1 : MetC P w K mg base (k + 1) C "ring_to" ["self", "early"] (spRingTo T C)) :
    FnOk P w K mg base CX0 (k + 2) f fd ["program", "buffers"] (spRings T) := by
  have S : FnScope nRg ["program", "buffers"] (defScope (topS 20)) := ⟨rfl, rfl, rfl, by decide +kernel, rfl, by decide +kernel, by decide +kernel⟩
  refine fun_okW F S (fun vs H Q E h => ?_) fun X cdv A outer s H vs Q E e c hr h => ?_
  · obtain ⟨p, wd, room, v1, v2, rfl, _⟩ := h
    rfl
  subst e
  obtain ⟨p, wd, room, v1, v2, rfl, hp, h1, h2, q⟩ := h
  have hu := room1 hr
  have g : Sg H (L2.start nRg [v1, v2]) [.d (encProg p), .d (encBuf wd room), .x, .x, .x, .x, .x, .x, .x] := .cons ⟨_, rfl, h1⟩ (.cons ⟨_, rfl, h2⟩ (.cons True.intro (.cons True.intro (.cons True.intro (.cons True.intro (.cons True.intro (.cons True.intro (.cons True.intro .nil))))))))
  refine s_parD (T := T) c 2 3 g ev_dnew ev_dnew fun df dw σ1 H1 nf nw hne l1 gf gw g1 => ?_
  have g1' : Sg H1 σ1 [.d (encProg p), .d (encBuf wd room), .v (.ref df), .v (.ref dw), .x, .x, .x, .x, .x] := g1
  have hLl := looseM_le p wd room hp
  refine s_for (T := T) c (enc := encT) (L := looseM p wd room) (ei_tup (ev_callR (ds := [encProg p, encBuf wd room]) (C1.mono (by omega)) hr (ea_cons (ev_v 0 g1' rfl) (ea_1 (ev_v 1 g1' rfl))) ⟨p, wd, room, hp, rfl, rfl⟩))
    (fun Hs n σ' H' => Le T H1 Hs ∧ LeX T (W2 df dw) Hs H' ∧ Sg H' σ' [.d (encProg p), .d (encBuf wd room), .v (.ref df), .v (.ref dw), .x, .x, .x, .x, .x] ∧ ∃ (kvs : List (List Key × V)) (Mw : List (S2 × Addr)), H' df = some (.dT kvs) ∧ kvs.map (·.1) = (((looseM p wd room).take n).foldl (liveStep p) []).map triK ∧ WDk C H' df dw p Mw ∧ Mw.length ≤ n)
    (fun H2 l => ⟨l, .refl _, g1'.mono l.tk, [], [], l.dct gf, by rw [List.take_zero]; rfl, ⟨l.dct gw, fun _ z => nomatch z⟩, Nat.le_refl _⟩) (fun H2 n σ' H' l j => ⟨w2_tk (l.dct gf) (l.dct gw) j.2.1, fun _ _ z => z.elim⟩)
    (fun H2 n σ' H' H3 j l => ⟨j.1, j.2.1.trans (.of l), j.2.2.1.mono l.tk, let ⟨kvs, Mw, a1, a2, a3, a4⟩ := j.2.2.2; ⟨kvs, Mw, l.dct a1, a2, a3.le l, a4⟩⟩)
    (fun H2 n x v σ' H' l hx j dv => ?_) fun H2 σ' H' l j => ?_
  · obtain ⟨j0, j1, j2, kvs, Mw, jf, jk, jw, jl⟩ := j
    have hn : n < (looseM p wd room).length := (List.getElem?_eq_some_iff.mp hx).1
    obtain ⟨i, jj, hi, hj, hist, hjacc, _⟩ := loose_mem (List.mem_of_getElem? hx)
    have hiacc : i.acc = true := by cases i <;> first | rfl | cases hist
    obtain ⟨t, e, lt⟩ := x
    have hi' : insAt p t e = some i := hi
    have hj' : insAt p t lt = some jj := hj
    have htp : t < p.length := by
      obtain ⟨r, hr', _⟩ := insAt_row hi'
      exact (List.getElem?_eq_some_iff.mp hr').1
    have tk1 : ((looseM p wd room).take (n + 1)).foldl (liveStep p) [] = liveStep p (((looseM p wd room).take n).foldl (liveStep p) []) (t, e, lt) := by
      rw [List.take_add_one, hx, List.foldl_append]
      rfl
    have hll : (((looseM p wd room).take n).foldl (liveStep p) []).length ≤ 1536 := by
      have h1 := foldl_le (liveStep p) 1 (liveStep_le p) ((looseM p wd room).take n) []
      rw [List.length_nil, List.length_take] at h1
      omega
    rw [tk1]
    generalize hLn : ((looseM p wd room).take n).foldl (liveStep p) [] = Ln at jk hll ⊢
    have hkl : kvs.length ≤ 1536 := by
      have := congrArg List.length jk
      rw [List.length_map, List.length_map] at this
      omega
    refine g_name (s := .d (encT (t, e, lt))) c 4 j2 ⟨_, rfl, dv⟩ fun σ3 g3 => ?_
    have g3' : Sg H' σ3 [.d (encProg p), .d (encBuf wd room), .v (.ref df), .v (.ref dw), .d (encT (t, e, lt)), .x, .x, .x, .x] := g3
    refine s_asg (T := T) (ev_v 4 g3' rfl) fun v4 H4 l4 hv => g_tup3 c 5 6 7 (g3'.mono l4.tk) hv fun σ4 g4 => ?_
    have g4' : Sg H4 σ4 [.d (encProg p), .d (encBuf wd room), .v (.ref df), .v (.ref dw), .d (encT (t, e, lt)), .d (.int (t : Int)), .d (.int (e : Int)), .d (.int (lt : Int)), .x] := g4
    have jw4 := jw.le l4
    have jf4 := l4.dct jf
    -- the rest of the turn, with the Ways in the dict
    have fin : ∀ (H5 : Hp) (Mw5 : List (S2 × Addr)) (a5 : Addr), LeX T (W2 df dw) H2 H5 → Sg H5 σ4 [.d (encProg p), .d (encBuf wd room), .v (.ref df), .v (.ref dw), .d (encT (t, e, lt)), .d (.int (t : Int)), .d (.int (e : Int)), .d (.int (lt : Int)), .x] → H5 df = some (.dT kvs) → WDk C H5 df dw p Mw5 → Mw5.length ≤ n + 1 → look Mw5 (t, lt) = some a5 →
        wSs (cxOf CX0 P w K mg base nRg "rings_of" (defScope (topS 20)) f cdv A outer s H E).nox ((defBody (topS 20)).getD 1 (.Pass ⟨0, 0, 0, 0⟩) |> fun st => match st with | .For _ _ b _ _ => b.drop 2 | _ => [])
          { nx := fun σ6 H6 => Le T H1 H2 ∧ LeX T (W2 df dw) H2 H6 ∧ Sg H6 σ6 [.d (encProg p), .d (encBuf wd room), .v (.ref df), .v (.ref dw), .x, .x, .x, .x, .x] ∧ ∃ (kvs : List (List Key × V)) (Mw : List (S2 × Addr)), H6 df = some (.dT kvs) ∧ kvs.map (·.1) = (liveStep p Ln (t, e, lt)).map triK ∧ WDk C H6 df dw p Mw ∧ Mw.length ≤ n + 1,
            ct := fun σ6 H6 => Le T H1 H2 ∧ LeX T (W2 df dw) H2 H6 ∧ Sg H6 σ6 [.d (encProg p), .d (encBuf wd room), .v (.ref df), .v (.ref dw), .x, .x, .x, .x, .x] ∧ ∃ (kvs : List (List Key × V)) (Mw : List (S2 × Addr)), H6 df = some (.dT kvs) ∧ kvs.map (·.1) = (liveStep p Ln (t, e, lt)).map triK ∧ WDk C H6 df dw p Mw ∧ Mw.length ≤ n + 1,
            bk := wSs (cxOf CX0 P w K mg base nRg "rings_of" (defScope (topS 20)) f cdv A outer s H E).nox ((defBody (topS 20)).drop 2) { nx := fun _ H' => Q .non H', rt := Q }, rt := Q } σ4 H5 := by
      intro H5 Mw5 a5 lx5 g5 jf5 jw5 jl5 hlk
      obtain ⟨d, ji, w1, w2, w3, w4, w5⟩ := jw5.2 _ (look_mem hlk)
      have ej : ji = jj := by
        have h4 : insAt p t lt = some ji := w4
        rw [hj'] at h4
        cases h4
        rfl
      subst ej
      have hgw : valV (Mw5.map fun q => (stK q.1, V.ref q.2)) (stK (t, lt)) = some (.ref a5) := by rw [ref_look, hlk]; rfl
      obtain ⟨dx, v0, hins0, hdv0⟩ := w1
      have all := ways_all hp (i := ji) (late := lt) htp
      refine s_setG c 8 (w_meth (T := T) (ss := [.d (.int (e : Int))]) W.cl M1 hr (ev_dget (k := stK (t, lt)) hu (ev_v 3 g5 rfl) jw5.1 (ev_tup (ds := [.int (t : Int), .int (lt : Int)]) (ea_cons (ev_v 5 g5 rfl) (ea_1 (ev_v 7 g5 rfl)))) hgw) hins0 rfl (ea_1 (ev_v 6 g5 rfl)) fun vs H6 l6 hv => ?_)
      cases hv with
      | cons q1 t' =>
        cases t'
        obtain ⟨_, e1, q1⟩ := q1
        cases e1
        refine ⟨a5, d, p, t, e, waysM p ji t lt, i, _, rfl, ⟨dx, v0, l6.ins hins0, hdv0.mono l6.tk⟩, w5.le l6, all.ch, all.ok, hp, fun z hz => Nat.lt_of_lt_of_le (all.lt z hz) (by have := pow_le64 hp.1; omega), waysM_le p hp _ _ _, q1, hi', hiacc, fun v7 H7 l7 n7 y7 => ?_⟩
        have l57 := l6.trans l7
        have g7 : Sg H7 (σ4.set 8 (some v7)) [.d (encProg p), .d (encBuf wd room), .v (.ref df), .v (.ref dw), .d (encT (t, e, lt)), .d (.int (t : Int)), .d (.int (e : Int)), .d (.int (lt : Int)), .v v7] := (g5.mono l57.tk).set (s := .v v7) rfl 8
        have hrb : ringB p (t, e, lt) = hitM p i (waysM p ji t lt) := by
          unfold ringB
          show (match insAt p t lt, insAt p t e with | some i, some j => hitM p j (waysM p i t lt) | _, _ => false) = _
          rw [hj', hi']
        have jf7 := l57.dct jf5
        have jw7 := jw5.le l57
        refine s_if0 (T := T) (k := hitM p i (waysM p ji t lt)) (EB.to (eb_notN (ev_v 8 g7 rfl)) ?_) (fun h H8 l8 => ?_) fun h H8 l8 => s_nil ⟨j0, (lx5.trans (.of l57)).trans (.of l8), ((((g7.mono l8.tk).forget 4).forget 5).forget 6).forget 7 |>.forget 8, kvs, Mw5, l8.dct jf7, ?_, jw7.le l8, jl5⟩
        · cases hh : hitM p i (waysM p ji t lt) with
          | false =>
            rw [n7 hh]
            rfl
          | true =>
            obtain ⟨ds, hds⟩ := y7 hh
            obtain ⟨b, xs, rfl, _⟩ := hds.inv_tup
            rfl
        · have g8 := g7.mono l8.tk
          refine s_dput (T := T) (k := triK (t, e, lt)) hu (ev_v 8 g8 rfl) (ev_v 2 g8 rfl) (l8.dct jf7) (ev_v 4 g8 rfl) (by omega) fun v9 H9 l9 hv9 => s_nil (s_nil ?_)
          have jf9 := l9.dct (l8.dct jf7)
          have t9 := l9.tk.trans (tk_dT (u := .dT (putK kvs (triK (t, e, lt)) v9)) jf9)
          have lxu : LeX T (W2 df dw) H8 (upd H9 df (.dT (putK kvs (triK (t, e, lt)) v9))) := LeX.updD (.of l9) (.inl rfl) jf9
          have jw8 := jw7.le l8
          refine ⟨j0, (lx5.trans (.of (l57.trans l8))).trans lxu, ((((g8.mono t9).forget 4).forget 5).forget 6).forget 7 |>.forget 8, _, Mw5, upd_same, ?_, WDk.lex (l8.dct jf7) jw8.1 lxu (by rw [upd_ne (Ne.symm hne)]; exact l9.dct jw8.1) (fun q hq => hq) jw8, jl5⟩
          unfold liveStep
          rw [hrb, h]
          simp only [if_true]
          by_cases hm : (t, e, lt) ∈ Ln
          · rw [if_pos hm, putK_in _ (by rw [jk]; exact mem_triK.mpr hm), jk]
          · rw [if_neg hm, putK_out _ (by rw [jk]; exact fun z => hm (mem_triK.mp z)), jk, List.map_append]
            rfl
        · unfold liveStep
          rw [hrb, h]
          simp only [Bool.false_eq_true, if_false]
          exact jk
    refine s_if0 (T := T) (eb_dnotin (k := stK (t, lt)) hu (ev_tup (ds := [.int (t : Int), .int (lt : Int)]) (ea_cons (ev_v 5 g4' rfl) (ea_1 (ev_v 7 g4' rfl)))) (ev_v 3 g4' rfl) jw4.1) (fun h H5 l5 => ?_) fun h H5 l5 => ?_
    · rw [ref_look] at h
      have hlk : look Mw (t, lt) = none := by simpa using h
      have g5 := g4'.mono l5.tk
      have jw5 := jw4.le l5
      refine s_dputG (T := T) (k := stK (t, lt)) (Φ := fun v H' => ∃ y d, v = .ref y ∧ WayAt C H' y p t d ∧ d ≠ df ∧ d ≠ dw ∧ DkP H' d stK encEn (waysM p jj t lt)) hu ?_ (ev_v 3 g5 rfl) jw5.1 (ev_tup (ds := [.int (t : Int), .int (lt : Int)]) (ea_cons (ev_v 5 g5 rfl) (ea_1 (ev_v 7 g5 rfl)))) (by rw [List.length_map]; omega) fun v6 H6 H7 l6 hΦ l7 => ?_
      · refine w_make (T := T) (ss := [.d (encProg p), .d (.int (t : Int)), .d (.int (lt : Int))]) M0 hr (ea_cons (ev_v 0 g5 rfl) (ea_cons (ev_v 5 g5 rfl) (ea_1 (ev_v 7 g5 rfl)))) fun vs H6 y dx l6 hv hy hdx hne' => ?_
        cases hv with
        | cons q1 t1 =>
          cases t1 with
          | cons q2 t2 =>
            cases t2 with
            | cons q3 t3 =>
              cases t3
              obtain ⟨_, e1, q1⟩ := q1
              cases e1
              obtain ⟨_, e2, q2⟩ := q2
              cases e2
              obtain ⟨_, e3, q3⟩ := q3
              cases e3
              have lu : Le T H6 (upd (upd H6 dx (.own y)) y (.ins C dx [])) := (Le.new hdx).trans (.new (by rw [upd_ne (Ne.symm hne')]; exact hy))
              refine ⟨y, dx, p, t, lt, jj, _, _, _, rfl, upd_same, q1.mono lu.tk, q2.mono lu.tk, q3.mono lu.tk, hp, hj', hjacc, fun d H8 hd l8 wa8 dk8 => ⟨rfl, ?_, y, d, rfl, wa8, ?_, ?_, dk8⟩⟩
              · refine l6.trans ⟨fun b o e nt => l8.ex b o (fun z => ?_) (lu.ex b o e nt) nt, fun t => l8.tb (lu.tb t), fun b hb => lu.fr b (l8.fr b hb)⟩
                rw [show b = y from z, hy] at e
                cases e
              · intro z
                rw [z] at hd
                have := lu.fr _ hd
                rw [(l6.dct (l5.dct jf4))] at this
                cases this
              · intro z
                rw [z] at hd
                have := lu.fr _ hd
                rw [(l6.dct jw5.1)] at this
                cases this
      · obtain ⟨y, d, rfl, wa6, hd1, hd2, dk6⟩ := hΦ
        rw [ref_put _ _ _ hlk]
        have l67 := l6.trans l7
        have jw7 := jw5.le l67
        have jf7 := l67.dct (l5.dct jf4)
        have tku := tk_dT (u := .dT ((Mw ++ [((t, lt), y)]).map fun q => (stK q.1, V.ref q.2))) jw7.1
        have lxu : LeX T (W2 df dw) H7 (upd H7 dw (.dT ((Mw ++ [((t, lt), y)]).map fun q => (stK q.1, V.ref q.2)))) := LeX.updD (.refl _) (.inr rfl) jw7.1
        refine s_nil ?_
        refine fin _ (Mw ++ [((t, lt), y)]) y ((j1.trans (.of (l4.trans (l5.trans l67)))).trans lxu) ((g5.mono l67.tk).mono tku) (by rw [upd_ne hne]; exact jf7) ⟨upd_same, fun q hq => ?_⟩ (by rw [List.length_append]; simp only [List.length_cons, List.length_nil]; omega) ?_
        · rcases List.mem_append.mp hq with hq | hq
          · obtain ⟨d', i', w1, w2, w3, w4, w5⟩ := jw7.2 q hq
            refine ⟨d', i', ?_, w2, w3, w4, ?_⟩
            · obtain ⟨dx', v', k1, k2⟩ := w1
              refine ⟨dx', v', ?_, k2.mono tku⟩
              rw [upd_ne (fun z => by rw [z, jw7.1] at k1; cases k1)]
              exact k1
            · obtain ⟨kv', k1, k2⟩ := w5
              exact ⟨kv', by rw [upd_ne w3]; exact k1, k2.mono tku⟩
          · have hq' : q = ((t, lt), y) := by simpa using hq
            subst hq'
            have wa7 := wa6.le l7
            refine ⟨d, jj, ?_, hd1, hd2, hj', ?_⟩
            · obtain ⟨dx', v', k1, k2⟩ := wa7
              have ny : y ≠ dw := fun z => by rw [z, jw7.1] at k1; cases k1
              exact ⟨dx', v', (upd_ne ny).trans k1, k2.mono tku⟩
            · obtain ⟨kv', k1, k2⟩ := dk6.le l7
              exact ⟨kv', by rw [upd_ne hd2]; exact k1, k2.mono tku⟩
        · rw [look_app, hlk, look_cons]
          simp
    · rw [ref_look] at h
      obtain ⟨a5, hlk⟩ : ∃ a5, look Mw (t, lt) = some a5 := by
        cases hh : look Mw (t, lt) with
        | none => rw [hh] at h; cases h
        | some a5 => exact ⟨a5, rfl⟩
      exact fin H5 Mw a5 (j1.trans (.of (l4.trans l5))) (g4'.mono l5.tk) (l5.dct jf4) (jw4.le l5) (by omega) hlk
  · obtain ⟨j0, j1, j2, kvs, Mw, jf, jk, jw, jl⟩ := j
    rw [List.take_length] at jk
    have lf : Le T H H' := by
      refine (j1.trans (.refl _)).le (l1.trans j0) fun b hb => ?_
      rcases hb with hb | hb
      · rw [hb]; exact nf
      · rw [hb]; exact nw
    refine s_ret (T := T) (ev_v 2 j2 rfl) fun v H3 l3 hv => ?_
    have e : some v = some (V.ref df) := hv
    cases e
    exact q df H3 kvs nf (lf.trans l3) (l3.dct jf) jk
end
end RF
set_option Elab.async false
set_option linter.all false
set_option maxRecDepth 100000
set_option maxHeartbeats 4000000
/-! live_pairs -/
namespace RF
open PySem PySem.Spec L2 LamX
open PyProof.Rows hiding St

section
variable {T : List (Addr × Str)} {X : Cx} {e : Expr} {es : List Expr} {σ : St} {H : Hp} {ss : List Sl} {pos p : Pos} {x : Str} {k : Nat} {ps : List Str} {sp : Sp} {Q : VK}
/-- f(e, ..), whatever it does -/
theorem w_call (C : Cal X.prog X.w X.K X.mg X.base k x ps sp) (hr : Room k X.A) (ha : EvA T X (e :: es) σ H ss) (hs : ∀ vs H', Le T H H' → SsOk H' vs ss → sp vs H' Q E0) (hg : Gl X x := by rfl)
    (hdb : (x == ("__debug__" : Str)) = false := by decide) (he : starEach (e :: es) X.env = (false, eval e X.env) :: starEach es X.env := by rfl) (hpl : (backTo pos (starEach es X.env)).any (·.1) = false := by rfl) : wE X (.Call (.Name x p) (e :: es) [] pos) σ H Q := by
  obtain ⟨f, fd, F, hm, hk, hb⟩ := C.ex
  refine w_pe (pe_call F hr hg hm hk hb .nil pass0 pa_w hdb he hpl) (ha H (.refl H) _ fun vs H2 l2 h2 => ?_)
  rw [List.append_nil]
  exact hs vs H2 l2 h2
end
section
variable {P : Program} {w : World} {K : PySem.W.Frag} {mg : Str → Option Value} {base : Heap} {T : List (Addr × Str)} {f : Addr} {fd : FuncData} {k : Nat}
def rLive : List PyData → PyData → Prop := fun ds d => ∃ (p : Prog) (wd : Str) (room : Int), ProgOk p ∧ ds = [encProg p, encBuf wd room] ∧ d = .tuple ((liveM p wd room).map encT)
theorem ok_live_pairs (M : Nm mg) (F : Fun K "live_pairs" "live_pairs" (topS 21) f fd) (C1 : Cal P w K mg base k "rings_of" ["program", "buffers"] (spRings T)) : FnOk P w K mg base CX0 (k + 1) f fd ["program", "buffers"] (spR T 2 rLive) := by
  have S : FnScope ["program", "buffers"] ["program", "buffers"] (defScope (topS 21)) := ⟨rfl, rfl, rfl, by decide +kernel, rfl, by decide +kernel, by decide +kernel⟩
  refine fun_okW F S (fun _ _ _ _ h => spR_len h) fun X cdv A outer s H vs Q E e c hr h => ?_
  subst e
  obtain ⟨ds, d, _, hd, ⟨p, wd, room, hp, rfl, rfl⟩, q⟩ := h
  have g : Sg H (L2.start ["program", "buffers"] vs) [.d (encProg p), .d (encBuf wd room)] := startN hd
  have e1 : ((liveM p wd room).map triK).map keyD = (liveM p wd room).map encT := by rw [List.map_map]; rfl
  rw [← e1] at q
  refine s_retD (T := T) (ev_tupDict (ks := (liveM p wd room).map triK) (fun H1 l Q' q' => ?_) hr.hd M.tuple) q
  refine w_call (T := T) (ss := [.d (encProg p), .d (encBuf wd room)]) C1 hr (ea_cons (ev_v 0 (g.mono l.tk) rfl) (ea_1 (ev_v 1 (g.mono l.tk) rfl))) fun vs H2 l2 hv => ?_
  cases hv with
  | cons q1 t =>
    cases t with
    | cons q2 t =>
      cases t
      obtain ⟨_, e1, q1⟩ := q1
      cases e1
      obtain ⟨_, e2, q2⟩ := q2
      cases e2
      exact ⟨p, wd, room, _, _, rfl, hp, q1, q2, fun r H3 kvs _ l3 hr3 hk => q' r H3 kvs (l2.trans l3) hr3 hk⟩
end
end RF
set_option Elab.async false
set_option linter.all false
set_option maxRecDepth 100000
set_option maxHeartbeats 4000000
/-! from_the_left, fewest, apart -/
namespace RF
open PySem PySem.Spec L2 LamX NdefX
open PyProof.Rows hiding St
open PySem.W (AllAlike Sortable dataLe alike alikeAll)

/-- a def whose code object is known -/
theorem fun_okC {P : Program} {w : World} {K : PySem.W.Frag} {mg : Str → Option Value} {base : Heap} {x qual : Str} {st : Stmt} {f c0 : Addr} {fd : FuncData} {N ps : List Str} {k : Nat} {sp : Sp} (F : Fun K x qual st f fd) (hc : fd.code = .ref c0) (S : FnScope N ps (defScope st)) (len : ∀ vs H Q E, sp vs H Q E → vs.length = ps.length)
    (hbody : ∀ (X : Cx) (A : Around) (outer : List Env) (s : Shared) (H : Hp) (vs : List V) (Q : VK) (E : XK), X = (cxOf CX0 P w K mg base N qual (defScope st) f (.ref c0) A outer s H E).nox → Fx X → Room k X.A → sp vs H Q E → wSs X (defBody st) { nx := fun _ H' => Q .non H', rt := Q } (start N vs) H) :
    FnOk P w K mg base CX0 (k + 1) f fd ps sp := by
  obtain ⟨oc, od, kV, doc, pm, an, cdv, ct, osl, rfl, lk, hcd⟩ := F.ex
  have e : cdv = .ref c0 := hc
  subst e
  refine fn_of lk hcd S len fun A outer s H vs Q E hr hsp => ?_
  exact ⟨_, (pss_w (X := (cxOf CX0 P w K mg base N qual (defScope st) f (.ref c0) A outer s H E).nox)).nox, hbody _ A outer s H vs Q E rfl ⟨S.nd, rfl, PassesOwn.never⟩ hr hsp⟩
/-- the table of a def's code object -/
structure LamD (T : List (Addr × Str)) (base : Heap) (mg : Str → Option Value) (c0 : Addr) (q : Str) : Prop where
  ex : ∃ Pt, TabB base mg c0 Pt ∧ (Pt, q) ∈ T ∧ ∀ p ∈ T, p.1 = Pt → p.2 = q
/-- data to data, with the tables -/
def spRT (T : List (Addr × Str)) (n : Nat) (R : List PyData → PyData → Prop) : Sp := fun vs H Q E => Tabs T H ∧ spR T n R vs H Q E
theorem Ev.app {T : List (Addr × Str)} {X : Cx} {e : Expr} {σ : St} {H H1 : Hp} {s : Sl} {Q : VK} (h : Ev T X e σ H s) (l : Le T H H1) (q : ∀ v H2, Le T H1 H2 → SlOk H2 (some v) s → Q v H2) : wE X e σ H1 Q := h H1 l Q q
theorem EvL.app {T : List (Addr × Str)} {X : Cx} {e : Expr} {σ : St} {H H1 : Hp} {ds : List PyData} {Q : VK} (h : EvL T X e σ H ds) (l : Le T H H1) (q : ∀ p xs H2, H1 p = none → Le T H1 H2 → H2 p = some (.lst xs) → DtL H2 xs ds → Q (.ref p) H2) : wE X e σ H1 Q := h H1 l Q q
section
variable {T : List (Addr × Str)} {X : Cx} {a b d e : Expr} {es : List Expr} {σ : St} {H : Hp} {δ : List Sl} {rest : List Stmt} {D : Ends} {pos p : Pos} {k n : Nat} {x : Str} {ps : List Str} {R : List PyData → PyData → Prop} {ds : List PyData} {dd : PyData}
theorem ev_callRT (C : Cal X.prog X.w X.K X.mg X.base k x ps (spRT T n R)) (hT : Tabs T H) (hr : Room k X.A) (ha : EvA T X (e :: es) σ H (ds.map Sl.d)) (hR : R ds dd) (hn : ds.length = n := by rfl) (hg : Gl X x := by rfl)
    (hdb : (x == ("__debug__" : Str)) = false := by decide) (he : starEach (e :: es) X.env = (false, eval e X.env) :: starEach es X.env := by rfl) (hpl : (backTo pos (starEach es X.env)).any (·.1) = false := by rfl) : EvD T X (.Call (.Name x p) (e :: es) [] pos) σ H dd :=
  ev_call C hr ha (fun H1 vs l hv Q q => ⟨l.tb hT, spR_v (H := H) hn hR H1 vs l hv Q q⟩) hg hdb he hpl
/-- x, y, z = a, b, c where not all names are plain locals -/
theorem s_asg3 (c : Fx X) (i j l : Nat) {x y z : Str} {px py pz pt : Pos} {kt k2 : Nat} {pt2 : Pos}
    (h : wA X [a, b, d] σ H fun vs H1 => ∃ u v w, vs = [u, v, w] ∧ ∀ p, H1 p = none → wSs X rest D (((σ.set i (some u)).set j (some v)).set l (some w)) (upd H1 p (.tup [u, v, w])))
    (hi : X.N[i]? = some x := by rfl) (hj : X.N[j]? = some y := by rfl) (hl : X.N[l]? = some z := by rfl)
    (hx : Loc X.env.scope x := by first | exact Or.inl rfl | exact Or.inr rfl) (hy : Loc X.env.scope y := by first | exact Or.inl rfl | exact Or.inr rfl) (hz : Loc X.env.scope z := by first | exact Or.inl rfl | exact Or.inr rfl)
    (hf : X.fn x = true ∨ X.env.scope.names.lookup x = some .local := by first | exact .inl rfl | exact .inr rfl) (hf' : X.fn y = true ∨ X.env.scope.names.lookup y = some .local := by first | exact .inl rfl | exact .inr rfl) (hf2 : X.fn z = true ∨ X.env.scope.names.lookup z = some .local := by first | exact .inl rfl | exact .inr rfl)
    (hs : swapsWithSole [.Tuple [.Name x px, .Name y py, .Name z pz] kt pt] (.Tuple [a, b, d] k2 pt2) pos.line X.env = pure false := by rfl) (hw : swappedStores [.Tuple [.Name x px, .Name y py, .Name z pz] kt pt] (.Tuple [a, b, d] k2 pt2) X.env = pure none := by rfl)
    (h1 : (assignEach [.Tuple [.Name x px, .Name y py, .Name z pz] kt pt] X.env).map (·.2) = [assign (.Tuple [.Name x px, .Name y py, .Name z pz] kt pt) X.env] := by rfl) :
    wSs X (.Assign [.Tuple [.Name x px, .Name y py, .Name z pz] kt pt] (.Tuple [a, b, d] k2 pt2) pos :: rest) D σ H := by
  refine s_cons (w_ps (ps_asg (pe_tup pa_w) (pg_tup c.calm (pgs_cons (pg_name c.nd hi hx hf) (pgs_cons (pg_name c.nd hj hy hf') (pgs_cons (pg_name c.nd hl hz hf2) pgs_nil)))) hs hw h1) ?_)
  intro pos' pins s I
  refine thn (h pos' pins s I) fun us s' ⟨vs, H1, I1, r1, u, v, w, e, q⟩ => ?_
  subst e
  exact ⟨_, H1, I1, r1, by rw [sizeLine_eq]; show 3 ≤ _; decide, fun p hp => ⟨p, _, rfl, SqT.of upd_same, rfl, _, _, rfl, _, _, rfl, _, _, rfl, rfl, q p hp⟩⟩
theorem Sg.slot {i : Nat} {s : Sl} (g : Sg H σ δ) (h : δ[i]? = some s) : SlOk H (NdefX.slotAt σ i) s := by
  obtain ⟨o, e, q⟩ := g.get h
  unfold NdefX.slotAt
  rw [e]
  exact q
end
/-! the law's words -/
def lastM (rs : List Rem) (y : Tri) : Rem := ((rs.filter fun x => cutsM x y).getLast?).getD (false, 0, 0)
theorem last_of {rs : List Rem} {y : Tri} (h : rs.filter (fun x => cutsM x y) ≠ []) : ∃ zs, rs.filter (fun x => cutsM x y) = zs ++ [lastM rs y] := by
  unfold lastM
  rw [List.getLast?_eq_some_getLast h]
  exact ⟨_, (List.dropLast_concat_getLast h).symm⟩
def keyF (rs : List Rem) (y : Tri) : PyData := .tuple [.int (y.1 : Int), encR (lastM rs y), encT y]
def ftlStep (rs : List Rem) (s : List Rem × List Tri) (y : Tri) : List Rem × List Tri := if coversM s.1 [y] = true then s else (s.1 ++ [lastM rs y], s.2 ++ [y])
def ftlM (p : Prog) (b : Bool) (wd : Str) (room : Int) : List Rem × List Tri := ((liveM p wd room).mergeSort (dataLe false (keyF (remsM p b)))).foldl (ftlStep (remsM p b)) ([], [])
theorem liveM_mem {p : Prog} {wd : Str} {room : Int} {y : Tri} (h : y ∈ liveM p wd room) : y ∈ looseM p wd room ∧ ringB p y = true := by
  unfold liveM at h
  have := foldl_inv (f := liveStep p) (I := fun M => ∀ y ∈ M, y ∈ looseM p wd room ∧ ringB p y = true) (looseM p wd room) [] (fun y hy => by cases hy) fun M b hb ih => by
    unfold liveStep
    split
    · rename_i hr
      split
      · exact ih
      · intro y hy
        rcases List.mem_append.mp hy with hy | hy
        · exact ih y hy
        · have : y = b := by simpa using hy
          subst this
          exact ⟨hb, hr⟩
    · exact ih
  exact this y h
theorem rem_mem {p : Prog} {b : Bool} {t a : Nat} {r : List Ins} (hr : p[t]? = some r) (ha : a ≤ r.length) (h : isRemM r b a = true) : (b, t, a) ∈ remsM p b := by
  unfold remsM
  refine List.mem_flatMap.mpr ⟨(r, t), ?_, ?_⟩
  · rw [List.mem_iff_getElem?]
    exact ⟨t, by rw [List.getElem?_zipIdx, hr]; simp⟩
  · unfold remsR
    exact List.mem_map.mpr ⟨a, List.mem_filter.mpr ⟨List.mem_range.mpr (show a < r.length + 1 by omega), h⟩, rfl⟩
/-- each live pair has a remedy of either word -/
theorem live_rem {p : Prog} {wd : Str} {room : Int} {y : Tri} (b : Bool) (h : y ∈ looseM p wd room) : (remsM p b).filter (fun x => cutsM x y) ≠ [] := by
  obtain ⟨i, j, hi, hj, hist, hjacc, hlt⟩ := loose_mem h
  obtain ⟨t, e, l⟩ := y
  obtain ⟨r, hr, hri⟩ := insAt_row hi
  obtain ⟨r', hr', hrj⟩ := insAt_row hj
  rw [hr] at hr'
  cases hr'
  have hl : l < r.length := (List.getElem?_eq_some_iff.mp hrj).1
  have he : e < r.length := (List.getElem?_eq_some_iff.mp hri).1
  have hlt' : e < l := hlt
  have : ∃ z, z ∈ (remsM p b).filter (fun x => cutsM x (t, e, l)) := by
    cases b with
    | false =>
      refine ⟨(false, t, l), List.mem_filter.mpr ⟨rem_mem hr (by omega) ?_, ?_⟩⟩
      · simp [isRemM]; omega
      · simp [cutsM]; omega
    | true =>
      refine ⟨(true, t, e), List.mem_filter.mpr ⟨rem_mem hr (by omega) ?_, ?_⟩⟩
      · simp only [isRemM, if_true, hri, Option.map_some, Option.getD_some, hist, Bool.and_true, decide_eq_true_eq]
        exact he
      · simp [cutsM]; omega
  obtain ⟨z, hz⟩ := this
  intro e
  rw [e] at hz
  cases hz

section
variable {P : Program} {w : World} {K : PySem.W.Frag} {mg : Str → Option Value} {base : Heap} {T : List (Addr × Str)} {f c0 : Addr} {fd : FuncData} {k : Nat}
theorem alike_keyF (rs : List Rem) (L : List Tri) : AllAlike (L.map (keyF rs)) := PySem.W.AllAlike.of fun b b' => by simp [keyF, encR, alike, alikeAll]
theorem sortable_keyF (rs : List Rem) (L : List Tri) : Sortable (L.map (keyF rs)) := PySem.W.Sortable.tuples (enc := keyF rs) fun b => ⟨_, _, rfl⟩
theorem alike_encT (L : List Tri) : AllAlike (L.map encT) := PySem.W.AllAlike.of fun b b' => by simp [alike, alikeAll]
theorem sortable_encT (L : List Tri) : Sortable (L.map encT) := PySem.W.Sortable.tuples (enc := encT) fun b => ⟨_, _, rfl⟩
def rLeft : List PyData → PyData → Prop := fun ds d => ∃ (p : Prog) (wd : Str) (room : Int) (b : Bool), ProgOk p ∧ ds = [encProg p, encBuf wd room, .str (wordOf b)] ∧ d = .tuple [.tuple ((ftlM p b wd room).1.map encR), .tuple (((ftlM p b wd room).2.mergeSort (dataLe false encT)).map encT)]
abbrev nFl : List Str := ["program", "buffers", "word", "some", "found", "pairs", "pair"]
theorem liveM_le (p : Prog) (hp : ProgOk p) (wd : Str) (room : Int) : (liveM p wd room).length ≤ 1536 := by
  have h1 := foldl_le (liveStep p) 1 (liveStep_le p) (looseM p wd room) []
  have h2 := looseM_le p wd room hp
  rw [List.length_nil] at h1
  unfold liveM
  omega
theorem ftl_le (rs : List Rem) : ∀ (L : List Tri) (s : List Rem × List Tri), (L.foldl (ftlStep rs) s).1.length ≤ s.1.length + L.length ∧ (L.foldl (ftlStep rs) s).2.length ≤ s.2.length + L.length
  | [], s => ⟨Nat.le_refl _, Nat.le_refl _⟩
  | y :: L, s => by
    obtain ⟨h1, h2⟩ := ftl_le rs L (ftlStep rs s y)
    rw [List.foldl_cons, List.length_cons]
    have h3 : (ftlStep rs s y).1.length ≤ s.1.length + 1 ∧ (ftlStep rs s y).2.length ≤ s.2.length + 1 := by
      unfold ftlStep
      split
      · omega
      · simp only [List.length_append, List.length_cons, List.length_nil]; omega
    omega
/-- not cuts_all(l, [pair]) -/
theorem ev_ca1 {X : Cx} {σ : St} {H : Hp} {a b : Expr} {pos p pos2 : Pos} {q : Addr} {xs : List V} {rs : List Rem} {y : Tri} (C : Cal X.prog X.w X.K X.mg X.base k "cuts_all" ["remedies", "pairs"] (spCA T)) (hr : Room k X.A) (ha : Ev T X a σ H (.v (.ref q))) (hq : H q = some (.lst xs)) (hx : DtL H xs (rs.map encR)) (hl : rs.length ≤ 10000)
    (hb : EvD T X b σ H (encT y)) (hg : Gl X "cuts_all" := by rfl) (h1 : starEach [a, .List [b] pos2] X.env = (false, eval a X.env) :: starEach [.List [b] pos2] X.env := by rfl) (h2 : starEach [.List [b] pos2] X.env = (false, eval (.List [b] pos2) X.env) :: starEach [] X.env := by rfl) (hpl : (backTo pos (starEach [.List [b] pos2] X.env)).any (·.1) = false := by rfl)
    (h3 : starEach [b] X.env = (false, eval b X.env) :: starEach [] X.env := by rfl) : EvD T X (.Call (.Name "cuts_all" p) [a, .List [b] pos2] [] pos) σ H (.bool (coversM rs [y])) := fun H1 l Q q' => by
  obtain ⟨f, fd, F, hm, hk, hbi⟩ := C.ex
  refine w_pe (pe_call F hr hg hm hk hbi .nil pass0 (pa_cons pe_w (pa_cons pe_w pa_nil h2) h1) (by decide) h1 hpl) (ha H1 l _ fun v H2 l2 hv => ev_lst (ds := [encT y]) (ea_1 hb h3) (by show 1 ≤ 10000; decide) H2 (l.trans l2) _ fun r zs H3 _ l3 hr3 hz => ?_)
  have e : some v = some (V.ref q) := hv
  cases e
  have lt := (l.trans l2).trans l3
  exact ⟨q, xs, rs, .ref r, [y], rfl, lt.lst hq, hx.mono lt.tk, .inl ⟨r, zs, rfl, hr3, hz⟩, hl, by simp, fun v H4 l4 hv4 => q' v H4 ((l2.trans l3).trans l4) ⟨_, rfl, hv4⟩⟩
theorem ok_from_the_left (M : Nm mg) (F : Fun K "from_the_left" "from_the_left" (topS 29) f fd) (hc0 : fd.code = .ref c0) (LD : LamD T base mg c0 ("from_the_left" ++ ".<locals>." ++ "<lambda>")) (C1 : Cal P w K mg base k "all_remedies" ["program", "word"] (spR T 2 rRems)) (C2 : Cal P w K mg base k "live_pairs" ["program", "buffers"] (spR T 2 rLive))
    (C3 : Cal P w K mg base k "last_cut" ["remedies", "pair"] (spR T 2 rLast)) (C4 : Cal P w K mg base k "cuts_all" ["remedies", "pairs"] (spCA T)) : FnOk P w K mg base CX0 (k + 4) f fd ["program", "buffers", "word"] (spRT T 3 rLeft) := by
  have S : FnScope nFl ["program", "buffers", "word"] (defScope (topS 29)) := ⟨rfl, rfl, rfl, by decide +kernel, rfl, by decide +kernel, by decide +kernel⟩
  refine fun_okC F hc0 S (fun _ _ _ _ h => spR_len h.2) fun X A outer s H vs Q E e c hr h => ?_
  subst e
  obtain ⟨hT, ds, d, _, hd, ⟨p, wd, room, b, hp, rfl, rfl⟩, q⟩ := h
  have g : Sg H (L2.start nFl vs) [.d (encProg p), .d (encBuf wd room), .d (.str (wordOf b)), .x, .x, .x, .x] := startN hd
  have hrs := remsM_le p b hp
  have hlv := liveM_le p hp wd room
  obtain ⟨Pt, tb, hm, hu⟩ := LD.ex
  refine s_asg3 c 3 4 5 (w_pa (pa_cons pe_w (pa_cons pe_w (pa_cons pe_w pa_nil))) ?_)
  refine Ev.app (T := T) (ev_callR (ds := [encProg p, .str (wordOf b)]) (C1.mono (by omega)) hr (ea_cons (ev_v 0 g rfl) (ea_1 (ev_v 2 g rfl))) ⟨p, b, hp, rfl, rfl⟩) (.refl _) fun u H1 l1 hu1 => ?_
  refine EvL.app (T := T) (ev_lst (ds := []) ea_nil) l1 fun qf xf H2 nf l2 gf df => ?_
  refine EvL.app (T := T) (ev_lst (ds := []) ea_nil) (l1.trans l2) fun qp xp H3 np l3 gp dp => ?_
  refine ⟨u, .ref qf, .ref qp, rfl, fun pt hpt => ?_⟩
  obtain ⟨_, eu, hu1⟩ := hu1
  cases eu
  have l13 : Le T H (upd H3 pt (.tup [u, .ref qf, .ref qp])) := (l1.trans (l2.trans l3)).trans (.new hpt)
  have lu := Le.new (T := T) (H := H3) (o := .tup [u, .ref qf, .ref qp]) hpt
  have gf4 := lu.lst (l3.lst gf)
  have gp4 := lu.lst gp
  have df4 := df.mono (l3.trans lu).tk
  have dp4 := dp.mono lu.tk
  have hu4 := hu1.mono ((l2.trans l3).trans lu).tk
  have hne : qf ≠ qp := fun z => by
    rw [← z] at np
    rw [gf] at np
    cases np
  have nf0 : H qf = none := l1.fr _ nf
  have np0 : H qp = none := l1.fr _ (l2.fr _ np)
  have g4 : Sg (upd H3 pt (.tup [u, .ref qf, .ref qp])) (((L2.start nFl vs).set 3 (some u)).set 4 (some (.ref qf)) |>.set 5 (some (.ref qp))) [.d (encProg p), .d (encBuf wd room), .d (.str (wordOf b)), .d (.tuple ((remsM p b).map encR)), .v (.ref qf), .v (.ref qp), .x] :=
    ((((g.mono l13.tk).set (s := .d (.tuple ((remsM p b).map encR))) ⟨_, rfl, hu4⟩ 3).set (s := .v (.ref qf)) rfl 4).set (s := .v (.ref qp)) rfl 5)
  generalize hσ4 : (((L2.start nFl vs).set 3 (some u)).set 4 (some (.ref qf)) |>.set 5 (some (.ref qp))) = σ4 at g4 ⊢
  have hT4 := l13.tb hT
  generalize hH4 : upd H3 pt (.tup [u, .ref qf, .ref qp]) = H4 at g4 gf4 gp4 df4 dp4 hT4 l13 ⊢
  have Lm : LamT T (cxOf CX0 P w K mg base nFl "from_the_left" (defScope (topS 29)) f (.ref c0) A outer s H E).nox := ⟨c0, Pt, tb, rfl, hm, hu⟩
  have hkey : ∀ y ∈ liveM p wd room, ∃ zs, (remsM p b).filter (fun x => cutsM x y) = zs ++ [lastM (remsM p b) y] := fun y hy => last_of (live_rem b (liveM_mem hy).1)
  refine s_for (T := T) c (enc := encT) (L := (liveM p wd room).mergeSort (dataLe false (keyF (remsM p b)))) (ei_new (EvL.to (ev_sortedKey (T := T) (enc := encT) (key := keyF (remsM p b)) (bs := liveM p wd room) (fr := ["some"]) (js := [3]) (N := ["one", "some"]) (x1 := "one") Lm hT4
      (ec_tup (ev_callR (ds := [encProg p, encBuf wd room]) (C2.mono (by omega)) hr (ea_cons (ev_v 0 g4 rfl) (ea_1 (ev_v 1 g4 rfl))) ⟨p, wd, room, hp, rfl, rfl⟩)) (alike_keyF _ _) (sortable_keyF _ _) (by omega) (fun y _ => by simp [keyF, encR, PyData.depth, PyData.depthAll]) hr (nscope_by (by decide +kernel)) rfl (ndef_free (fr := ["some"]) (by show ndefB (defScope (topS 29)) _ _ = true; decide +kernel)) (ndef_fr (sc := defScope (topS 29)) (by decide +kernel)) (fun y vy H' Xl hy il l' dy => ?_) M.sorted) rfl))
    (fun Hs n σ' H' => Le T H4 Hs ∧ LeX T (W2 qf qp) Hs H' ∧ Tk Hs H' ∧ Sg H' σ' [.d (encProg p), .d (encBuf wd room), .d (.str (wordOf b)), .d (.tuple ((remsM p b).map encR)), .v (.ref qf), .v (.ref qp), .x] ∧
      ∃ ys zs, H' qf = some (.lst ys) ∧ DtL H' ys (((((liveM p wd room).mergeSort (dataLe false (keyF (remsM p b)))).take n).foldl (ftlStep (remsM p b)) ([], [])).1.map encR) ∧ H' qp = some (.lst zs) ∧ DtL H' zs (((((liveM p wd room).mergeSort (dataLe false (keyF (remsM p b)))).take n).foldl (ftlStep (remsM p b)) ([], [])).2.map encT))
    (fun H5 l => ⟨l, .refl _, .refl _, g4.mono l.tk, xf, xp, l.lst gf4, by rw [List.take_zero]; exact df4.mono l.tk, l.lst gp4, by rw [List.take_zero]; exact dp4.mono l.tk⟩)
    (fun H5 n σ' H' l j => ⟨j.2.2.1, fun r ys hn hh => j.2.1.ex r _ (fun z => ?_) hh fun _ z => by cases z⟩)
    (fun H5 n σ' H' H6 j l => ⟨j.1, j.2.1.trans (.of l), j.2.2.1.trans l.tk, j.2.2.2.1.mono l.tk, let ⟨ys, zs, a1, a2, a3, a4⟩ := j.2.2.2.2; ⟨ys, zs, l.lst a1, a2.mono l.tk, l.lst a3, a4.mono l.tk⟩⟩)
    (fun H5 n y v σ' H' l hy j dv => ?_) fun H5 σ' H' l j => ?_
  · -- the key
    obtain ⟨c', fl, Al, sl, Hl, rfl, hrl⟩ := il
    have gs : SlOk H' (NdefX.slotAt σ4 3) (.d (.tuple ((remsM p b).map encR))) := (g4.mono l'.tk).slot rfl
    have gl : Sg H' (startF ["one", "some"] [vy] ([3].map (NdefX.slotAt σ4))) [.d (encT y), .d (.tuple ((remsM p b).map encR))] := .cons ⟨_, rfl, dy⟩ (.cons gs .nil)
    obtain ⟨zs, hz⟩ := hkey y hy
    refine ev_tup (ds := [.int (y.1 : Int), encR (lastM (remsM p b) y), encT y]) (ea_cons (ev_ix (ev_v 0 gl rfl) ev_int rfl) (ea_cons (ev_callR (ds := [.tuple ((remsM p b).map encR), encT y]) C3 hrl (ea_cons (ev_v 1 gl rfl) (ea_1 (ev_v 0 gl rfl))) ⟨_, y, zs, _, by omega, hz, rfl, rfl⟩) (ea_1 (ev_v 0 gl rfl))))
  · have hn' : H4 r = none := hn
    rcases z with z | z
    · rw [z, gf4] at hn'; cases hn'
    · rw [z, gp4] at hn'; cases hn'
  · -- a turn
    obtain ⟨j0, j1, jt, j2, ys, zs, a1, a2, a3, a4⟩ := j
    have hym : y ∈ liveM p wd room := List.mem_mergeSort.mp (List.mem_of_getElem? hy)
    obtain ⟨zr, hzr⟩ := hkey y hym
    have tk1 : (((liveM p wd room).mergeSort (dataLe false (keyF (remsM p b)))).take (n + 1)).foldl (ftlStep (remsM p b)) ([], []) = ftlStep (remsM p b) ((((liveM p wd room).mergeSort (dataLe false (keyF (remsM p b)))).take n).foldl (ftlStep (remsM p b)) ([], [])) y := by
      rw [List.take_add_one, hy, List.foldl_append]
      rfl
    have hls := ftl_le (remsM p b) (((liveM p wd room).mergeSort (dataLe false (keyF (remsM p b)))).take n) ([], [])
    have hll : (((liveM p wd room).mergeSort (dataLe false (keyF (remsM p b)))).take n).length ≤ 1536 := by
      rw [List.length_take, List.length_mergeSort]
      omega
    rw [tk1]
    generalize hSn : (((liveM p wd room).mergeSort (dataLe false (keyF (remsM p b)))).take n).foldl (ftlStep (remsM p b)) ([], []) = Sn at a2 a4 hls ⊢
    simp only [List.length_nil] at hls
    have hyl := a2.len
    have hzl := a4.len
    rw [List.length_map] at hyl hzl
    refine g_name (s := .d (encT y)) c 6 j2 ⟨_, rfl, dv⟩ fun σ3 g3 => ?_
    have g3' : Sg H' σ3 [.d (encProg p), .d (encBuf wd room), .d (.str (wordOf b)), .d (.tuple ((remsM p b).map encR)), .v (.ref qf), .v (.ref qp), .d (encT y)] := g3
    refine s_if0 (T := T) (eb_not (eb_val (ev_ca1 (C4.mono (by omega)) hr (ev_v 4 g3' rfl) a1 a2 (by omega) (ev_v 6 g3' rfl)))) (fun h H6 l6 => ?_) fun h H6 l6 => s_nil ⟨j0, j1.trans (.of l6), jt.trans l6.tk, (g3'.mono l6.tk).forget 6, ys, zs, l6.lst a1, ?_, l6.lst a3, ?_⟩
    · have hcv : coversM Sn.1 [y] = false := by simpa using h
      have g6 := g3'.mono l6.tk
      refine s_append (T := T) (ev_v 4 g6 rfl) (l6.lst a1) (by omega) (ev_callR (ds := [.tuple ((remsM p b).map encR), encT y]) (C3.mono (by omega)) hr (ea_cons (ev_v 3 g6 rfl) (ea_1 (ev_v 6 g6 rfl))) ⟨_, y, zr, _, by omega, hzr, rfl, rfl⟩) fun v7 H7 l7 hv7 => ?_
      obtain ⟨_, e7, hv7⟩ := hv7
      cases e7
      have a17 := l7.lst (l6.lst a1)
      have t7 := tk_lst (o := .lst (ys ++ [v7])) a17
      have lx7 : LeX T (W2 qf qp) H' (upd H7 qf (.lst (ys ++ [v7]))) := LeX.updL (.of (l6.trans l7)) (.inl rfl) a17
      have g7 := (g6.mono l7.tk).mono t7
      have a37 : upd H7 qf (.lst (ys ++ [v7])) qp = some (.lst zs) := by rw [upd_ne (Ne.symm hne)]; exact l7.lst (l6.lst a3)
      refine s_append (T := T) (ev_v 5 g7 rfl) a37 (by omega) (ev_v 6 g7 rfl) fun v8 H8 l8 hv8 => s_nil (s_nil ?_)
      obtain ⟨_, e8, hv8⟩ := hv8
      cases e8
      have a38 := l8.lst a37
      have a18 := l8.lst (upd_same (H := H7) (a := qf) (o := .lst (ys ++ [v7])))
      have t8 := tk_lst (o := .lst (zs ++ [v8])) a38
      have lx8 : LeX T (W2 qf qp) H' (upd H8 qp (.lst (zs ++ [v8]))) := LeX.updL (lx7.trans (.of l8)) (.inr rfl) a38
      have tt : Tk H' (upd H8 qp (.lst (zs ++ [v8]))) := (((l6.tk.trans l7.tk).trans t7).trans l8.tk).trans t8
      refine ⟨j0, j1.trans lx8, jt.trans tt, ((g7.mono l8.tk).mono t8).forget 6, ys ++ [v7], zs ++ [v8], by rw [upd_ne hne]; exact a18, ?_, upd_same, ?_⟩
      · unfold ftlStep
        rw [if_neg (by rw [hcv]; exact Bool.false_ne_true), List.map_append]
        exact (a2.mono tt).append (.cons (((hv7.mono t7).mono l8.tk).mono t8) .nil)
      · unfold ftlStep
        rw [if_neg (by rw [hcv]; exact Bool.false_ne_true), List.map_append]
        exact (a4.mono tt).append (.cons (hv8.mono t8) .nil)
    · have hcv : coversM Sn.1 [y] = true := by simpa using h
      unfold ftlStep
      rw [if_pos hcv]
      exact a2.mono l6.tk
    · have hcv : coversM Sn.1 [y] = true := by simpa using h
      unfold ftlStep
      rw [if_pos hcv]
      exact a4.mono l6.tk
  · obtain ⟨j0, j1, jt, j2, ys, zs, a1, a2, a3, a4⟩ := j
    rw [List.take_length] at a2 a4
    have hls := ftl_le (remsM p b) ((liveM p wd room).mergeSort (dataLe false (keyF (remsM p b)))) ([], [])
    rw [List.length_mergeSort] at hls
    simp only [List.length_nil] at hls
    have lf : Le T H H' := j1.le (l13.trans j0) fun b' hb => by
      rcases hb with hb | hb
      · rw [hb]; exact nf0
      · rw [hb]; exact np0
    refine s_retD (T := T) (ev_tup (ds := [.tuple ((ftlM p b wd room).1.map encR), .tuple (((ftlM p b wd room).2.mergeSort (dataLe false encT)).map encT)]) (ea_cons (ev_tupL (ev_v 4 j2 rfl) a1 a2 M.tuple) (ea_1 (ev_tupN ?_ M.tuple)))) fun v H9 l9 hv => q v H9 (lf.trans l9) hv
    refine EvL.to (ev_sorted (T := T) (enc := encT) (bs := (ftlM p b wd room).2) (ec_lst (ev_v 5 j2 rfl) a3 a4) (alike_encT _) (sortable_encT _) ?_ hr (fun y _ => by simp [PyData.depth, PyData.depthAll]) M.sorted) rfl
    unfold ftlM
    omega
end
end RF
set_option Elab.async false
set_option linter.all false
set_option maxRecDepth 100000
set_option maxHeartbeats 4000000
/-! fewest, apart -/
namespace RF
open PySem PySem.Spec L2 LamX NdefX
open PyProof.Rows hiding St
open PySem.W (dataLe)

section
variable {P : Program} {w : World} {K : PySem.W.Frag} {mg : Str → Option Value} {base : Heap} {T : List (Addr × Str)} {f : Addr} {fd : FuncData} {k : Nat}
def rFew : List PyData → PyData → Prop := fun ds d => ∃ (p : Prog) (wd : Str) (room : Int) (b : Bool), ProgOk p ∧ ds = [encProg p, encBuf wd room, .str (wordOf b)] ∧ d = .tuple ((ftlM p b wd room).1.map encR)
def rApart : List PyData → PyData → Prop := fun ds d => ∃ (p : Prog) (wd : Str) (room : Int) (b : Bool), ProgOk p ∧ ds = [encProg p, encBuf wd room, .str (wordOf b)] ∧ d = .tuple (((ftlM p b wd room).2.mergeSort (dataLe false encT)).map encT)
abbrev nPbw : List Str := ["program", "buffers", "word"]
theorem ok_fewest (F : Fun K "fewest" "fewest" (topS 30) f fd) (C1 : Cal P w K mg base k "from_the_left" nPbw (spRT T 3 rLeft)) : FnOk P w K mg base CX0 (k + 1) f fd nPbw (spRT T 3 rFew) := by
  have S : FnScope nPbw nPbw (defScope (topS 30)) := ⟨rfl, rfl, rfl, by decide +kernel, rfl, by decide +kernel, by decide +kernel⟩
  refine fun_okW F S (fun _ _ _ _ h => spR_len h.2) fun X cdv A outer s H vs Q E e c hr h => ?_
  subst e
  obtain ⟨hT, ds, d, _, hd, ⟨p, wd, room, b, hp, rfl, rfl⟩, q⟩ := h
  have g : Sg H (L2.start nPbw vs) [.d (encProg p), .d (encBuf wd room), .d (.str (wordOf b))] := startN hd
  exact s_retD (T := T) (ev_ix (ev_callRT (ds := [encProg p, encBuf wd room, .str (wordOf b)]) C1 hT hr (ea_cons (ev_v 0 g rfl) (ea_cons (ev_v 1 g rfl) (ea_1 (ev_v 2 g rfl)))) ⟨p, wd, room, b, hp, rfl, rfl⟩) ev_int rfl) q
theorem ok_apart (F : Fun K "apart" "apart" (topS 31) f fd) (C1 : Cal P w K mg base k "from_the_left" nPbw (spRT T 3 rLeft)) : FnOk P w K mg base CX0 (k + 1) f fd nPbw (spRT T 3 rApart) := by
  have S : FnScope nPbw nPbw (defScope (topS 31)) := ⟨rfl, rfl, rfl, by decide +kernel, rfl, by decide +kernel, by decide +kernel⟩
  refine fun_okW F S (fun _ _ _ _ h => spR_len h.2) fun X cdv A outer s H vs Q E e c hr h => ?_
  subst e
  obtain ⟨hT, ds, d, _, hd, ⟨p, wd, room, b, hp, rfl, rfl⟩, q⟩ := h
  have g : Sg H (L2.start nPbw vs) [.d (encProg p), .d (encBuf wd room), .d (.str (wordOf b))] := startN hd
  exact s_retD (T := T) (ev_ix (ev_callRT (ds := [encProg p, encBuf wd room, .str (wordOf b)]) C1 hT hr (ea_cons (ev_v 0 g rfl) (ea_cons (ev_v 1 g rfl) (ea_1 (ev_v 2 g rfl)))) ⟨p, wd, room, b, hp, rfl, rfl⟩) ev_int rfl) q
end
end RF
set_option Elab.async false
set_option linter.all false
set_option maxRecDepth 100000
set_option maxHeartbeats 4000000
/-! price lists as dicts; lists compared; index, min, sum -/
namespace RF
open PySem PySem.Spec L2 LamX NdefX
open PyProof.Rows hiding St
open PySem.W (dataLe)

/-! ### a price list: a tuple of pairs (remedy, 1) -/
abbrev remK (x : Rem) : List Key := [.inr (wordOf x.1), .inl (x.2.1 : Int), .inl (x.2.2 : Int)]
theorem wordOf_inj {a b : Bool} (h : wordOf a = wordOf b) : a = b := by
  cases a <;> cases b <;> first | rfl | exact absurd h n_wf | exact absurd h.symm n_wf
theorem remK_inj (a b : Rem) (h : remK a = remK b) : a = b := by
  obtain ⟨a1, a2, a3⟩ := a
  obtain ⟨b1, b2, b3⟩ := b
  simp only [remK, List.cons.injEq, Sum.inl.injEq, Sum.inr.injEq, Int.natCast_inj, and_true] at h
  rw [wordOf_inj h.1, h.2.1, h.2.2]
abbrev plD (x : Rem) : PyData := .tuple [encR x, .int 1]
/-- the very tuple -/
def PlT (a : Addr) (xs : List V) : HO := .ext fun h => ∃ its, Vals xs its ∧ xs.length ≤ sizeLine ∧ PlainSeq "tuple" h a its.toArray
theorem plT_ntbl {a : Addr} {xs : List V} (ps : Array Value) : PlT a xs ≠ .tbl ps := fun z => by
  unfold PlT at z
  cases z
def PlOk (H : Hp) (v : V) (rs : List Rem) : Prop := ∃ a xs, v = .ref a ∧ H a = some (PlT a xs) ∧ DtL H xs (rs.map plD)
theorem PlOk.le {T : List (Addr × Str)} {H H' : Hp} {v : V} {rs : List Rem} (l : Le T H H') (h : PlOk H v rs) : PlOk H' v rs := by
  obtain ⟨a, xs, e, h1, h2⟩ := h
  exact ⟨a, xs, e, l.ex _ _ h1 fun _ => plT_ntbl _, h2.mono l.tk⟩
section
variable {X : Cx} {T : List (Addr × Str)} {a b e o : Expr} {σ : St} {H : Hp} {pos p p2 : Pos} {ds ds' : List PyData} {rs : List Rem}
/-- tuple(l), the very tuple -/
theorem call_plT : CallR X (.type "tuple") (fun vs H Q => ∃ r ys, vs = [.ref r] ∧ H r = some (.lst ys) ∧ ∀ q, H q = none → Q (.ref q) (upd H q (PlT q ys))) := by
  intro pins s σ H xs us Q I r0 h
  obtain ⟨r, ys, rfl, hr, q⟩ := h
  rw [Vals.ref1 r0]
  obtain ⟨hz, its, n, rv, ho⟩ := I.hok r _ hr
  refine call_tuple_list ⟨_, ho, rfl, n, rfl⟩ (fun h' kp => ?_) (by rw [List.size_toArray, ← rv.length]; exact hz)
  have I1 : Inv X pins σ H { s with heap := h' } := I.kept (t' := s.toks) kp
  have g : (h'.push { cls := .type "tuple", data := .seq its.toArray }).get? h'.objs.size = some { cls := .type "tuple", data := .seq its.toArray } := Heap.get?_push_size _ rfl
  have ok : ObjOk X.prog X.w (upd H h'.objs.size (PlT h'.objs.size ys)) (h'.push { cls := .type "tuple", data := .seq its.toArray }) h'.objs.size (PlT h'.objs.size ys) :=
    ⟨⟨its, rv, hz, _, _, g, rfl, rfl, rfl⟩, ⟨_, g⟩, fun _ _ ⟨i, v, z, o, n, e, c⟩ st => ⟨i, v, z, o, n, st _ e, c⟩⟩
  exact ⟨.ref h'.objs.size, _, I1.laid (t' := s.toks) (fun b o e => Heap.get?_push_of_some _ e) (Nat.le_refl _) ok, rfl, q _ (I1.hok.fresh (Nat.le_refl _))⟩
theorem w_tupPl {Q : VK} (h : EvL T X a σ H (rs.map plD)) {H1 : Hp} (l : Le T H H1) (q : ∀ v H2, Le T H1 H2 → PlOk H2 v rs → Q v H2) (hm : X.mg "tuple" = none) (hg : Gl X "tuple" := by rfl) (hst : starEach [a] X.env = (false, eval a X.env) :: starEach [] X.env := by rfl) (hpl : (backTo pos (starEach [] X.env)).any (·.1) = false := by rfl) :
    wE X (.Call (.Name "tuple" p) [a] [] pos) σ H1 Q := by
  refine w_pe (pe_callTy call_plT hg hm PyProof.Rows.boot_tuple (pa_cons pe_w pa_nil hst) (by decide) (by decide) hst hpl) (h H1 l _ fun r xs H2 _ l2 hr hd => ?_)
  exact ⟨r, xs, rfl, hr, fun n hn => q _ _ (l2.trans (.new hn)) ⟨n, xs, rfl, upd_same, hd.mono (Le.new (T := T) hn).tk⟩⟩
/-- the pairs' objects -/
theorem pl_rows {P : Program} {w : World} {h : Heap} (ok : HOk P w H h) : ∀ {rs : List Rem} {xs : List V} {us : List Value}, DtL H xs (rs.map plD) → Vals xs us →
    ∃ (Ts : List Addr) (ps : List (List Key × Addr × Value)), us = Ts.map Value.ref ∧ KT H (rs.map fun r => (remK r, V.int 1)) ps ∧ Paired (fun t (q : List Key × Addr × Value) => h.IsTuple t #[.ref q.2.1, q.2.2]) Ts ps
  | [], _, _, x, r => by
    cases x
    cases r
    exact ⟨[], [], rfl, .nil, .nil⟩
  | y :: rs, _, _, x, r => by
    cases x with
    | cons x1 x2 =>
      cases r with
      | cons r1 r2 =>
        obtain ⟨Ts, ps, e, k, pr⟩ := pl_rows ok x2 r2
        obtain ⟨t, zs, rfl, ht, hz⟩ := x1.inv_tup
        cases r1
        cases hz with
        | cons z1 z2 =>
          cases z2 with
          | cons z2 z3 =>
            cases z3
            obtain rfl := z2.inv_int
            obtain ⟨b, rfl, hb⟩ := key_at (k := remK y) z1
            obtain ⟨_, its, rv, o, ho, hc, n, hdat⟩ := ok t _ ht
            cases rv with
            | cons q1 q2 =>
              cases q2 with
              | cons q2 q3 =>
                cases q3
                cases q1
                obtain ⟨tk, rfl⟩ := q2
                exact ⟨t :: Ts, (remK y, b, .int 1 tk) :: ps, by rw [e]; rfl, .cons ⟨rfl, hb, tk, rfl⟩ k, .cons ⟨o, ho, hc, n, hdat⟩ pr⟩
theorem kt_keys2 {kvs : List (List Key × V)} {ps : List (List Key × Addr × Value)} (r : KT H kvs ps) : ps.map (·.1) = kvs.map (·.1) := by
  induction r with
  | nil => rfl
  | cons h t ih => rw [List.map_cons, List.map_cons, ih, h.1]
theorem atKey_mem {xs : List (List Key × Addr × Value)} {k : List Key} (h : k ∉ xs.map (·.1)) : atKey xs k = none := by
  unfold atKey
  rw [Option.map_eq_none_iff, List.find?_eq_none]
  intro x hx e
  simp only [decide_eq_true_eq] at e
  exact h (List.mem_map.mpr ⟨x, hx, e⟩)
theorem storedAll_nodup : ∀ (ps xs : List (List Key × Addr × Value)), ((xs ++ ps).map (·.1)).Nodup → storedAllH xs ps = xs ++ ps
  | [], xs, _ => by simp [storedAllH]
  | p :: ps, xs, h => by
    have h1 : atKey xs p.1 = none := by
      refine atKey_mem fun hm => ?_
      rw [List.map_append, List.nodup_append] at h
      exact h.2.2 _ hm _ (by simp) rfl
    show storedAllH (storedH xs p.1 p.2.1 p.2.2) ps = _
    rw [storedH_new h1, storedAll_nodup ps _ (by rw [List.append_assoc]; exact h), List.append_assoc]
    rfl
theorem nodup_map {α β : Type} {f : α → β} (inj : ∀ a b, f a = f b → a = b) : ∀ {l : List α}, l.Nodup → (l.map f).Nodup
  | [], _ => List.nodup_nil
  | a :: l, h => by
    rw [List.nodup_cons] at h
    rw [List.map_cons, List.nodup_cons]
    refine ⟨fun z => ?_, nodup_map inj h.2⟩
    obtain ⟨b, hb, e⟩ := List.mem_map.mp z
    exact h.1 (inj _ _ e ▸ hb)
theorem remK_nodup {rs : List Rem} (h : rs.Nodup) : (rs.map remK).Nodup := nodup_map remK_inj h
theorem paired_get {α β : Type} {F : α → β → Prop} : ∀ {l : List α} {m : List β} {j : Nat} {y : β}, Paired F l m → m[j]? = some y → ∃ x, l[j]? = some x ∧ F x y
  | _, _, _, _, .nil, h => by simp at h
  | _, _, 0, _, .cons r _, h => by
    simp at h
    subst h
    exact ⟨_, rfl, r⟩
  | _, _, j + 1, _, .cons _ t, h => by
    obtain ⟨x, h1, h2⟩ := paired_get t (j := j) (by simpa using h)
    exact ⟨x, by simpa using h1, h2⟩
/-- dict(price list) -/
theorem call_dictPl (hh : X.A.handled = none) (hu : X.A.units + 10 < cLine) : CallR X (.type "dict") (fun vs H Q => ∃ v rs, vs = [v] ∧ PlOk H v rs ∧ rs.Nodup ∧ rs.length ≤ 10000 ∧ ∀ q, H q = none → DkP (upd H q (.dT (rs.map fun r => (remK r, V.int 1)))) q remK PyData.int (rs.map fun r => (r, (1 : Int))) → Q (.ref q) (upd H q (.dT (rs.map fun r => (remK r, V.int 1))))) := by
  intro pins s σ H xs us Q I r h
  obtain ⟨v, rs, rfl, ⟨a, xs, rfl, ha, hd⟩, nd, hl, q⟩ := h
  rw [Vals.ref1 r]
  obtain ⟨⟨its, rv, hz, pl⟩, _, _⟩ := I.hok a _ ha
  obtain ⟨Ts, ps, rfl, kt, pr⟩ := pl_rows I.hok hd rv
  have hlp : ps.length = rs.length := by rw [← Paired.length kt, List.length_map]
  have hlt : Ts.length = ps.length := Paired.length pr
  have nd2 : (ps.map (·.1)).Nodup := by
    rw [kt_keys2 kt, List.map_map]
    exact remK_nodup nd
  have his : ∀ x ∈ ps, (tupleKind (mixKind X.prog X.w)).is s.heap x.1 x.2.1 := by
    have all : ∀ {l : List (List Key × V)} {m : List (List Key × Addr × Value)}, KT H l m → ∀ x ∈ m, (tupleKind (mixKind X.prog X.w)).is s.heap x.1 x.2.1 := by
      intro l m q
      induction q with
      | nil => intro x hx; exact nomatch hx
      | @cons p q ps qs hq t ih =>
        intro x hx
        rcases List.mem_cons.mp hx with e | hx
        · subst e
          exact key_of I.hok (by rw [← hq.1]; exact hq.2.1)
        · exact ih x hx
    exact all kt
  have hpi : PairItems s.heap (Ts.map Value.ref).toArray (fun j => Ts.getD j 0) (ps.map fun x => (Value.ref x.2.1, x.2.2)) := by
    refine ⟨by simp [hlt], fun j k v hj => ?_⟩
    rw [List.getElem?_map] at hj
    obtain ⟨x, hx, e⟩ := Option.map_eq_some_iff.mp hj
    cases e
    obtain ⟨t, ht, h1⟩ := paired_get pr hx
    refine ⟨by simp [ht, List.getD_eq_getElem?_getD], .inl ?_⟩
    have e2 : (fun j => Ts.getD j 0) j = t := by show Ts.getD j 0 = t; rw [List.getD_eq_getElem?_getD, ht]; rfl
    rw [e2]
    exact h1
  refine call_dict_pairsH (knd := tupleKind (mixKind X.prog X.w)) (ps := ps) (PairArg.tuple a (Ts.map Value.ref).toArray (fun j => Ts.getD j 0) (ps.map fun x => (Value.ref x.2.1, x.2.2))) hh (by show X.A.units + 1 + 1 < cLine; omega) ⟨pl, hpi⟩ ⟨by simp, fun i key v hr => ?_⟩ (fun h' hk x hx => tupleKind_stays.stays (fun b o vs n e _ => hk b o (Nat.ne_of_lt (Heap.lt_size e)) (by simp) e) (his x hx)) (by rw [List.length_map, hlp, sizeLine_eq]; omega) fun h' tk hdd hk => ?_
  · have hr' : (ps.map fun x => (Value.ref x.2.1, x.2.2))[i]? = some (key, v) := hr
    rw [List.getElem?_map] at hr'
    obtain ⟨x, hx, e⟩ := Option.map_eq_some_iff.mp hr'
    cases e
    exact ⟨x.1, x.2.1, hx, rfl⟩
  · rw [storedAll_nodup ps [] (by simpa using nd2), List.nil_append] at hdd
    have hn : H s.heap.objs.size = none := I.hok.fresh (Nat.le_refl _)
    have tk2 : Tk H (upd H s.heap.objs.size (.dT (rs.map fun r => (remK r, V.int 1)))) := fun b ys e => by rw [upd_ne (ne_of_none e hn)]; exact e
    have ok : ObjOk X.prog X.w (upd H s.heap.objs.size (.dT (rs.map fun r => (remK r, V.int 1)))) h' s.heap.objs.size (.dT (rs.map fun r => (remK r, V.int 1))) := by
      obtain ⟨o, es, ep, h1, h2, h3, h4, _, h6⟩ := hdd
      exact ⟨by rw [List.length_map, sizeLine_eq]; omega, beq_eq_false_iff_ne.mpr (Nat.ne_of_gt I.big), ps, kt.keeps fun b ys e => tk2 b ys e, o, es, ep, h1, h2, h3, h4, h6⟩
    refine ⟨.ref s.heap.objs.size, _, I.laid (t' := tk) (fun b o e => hk b o (by simp) e) (Nat.le_refl _) ok, rfl, q _ hn ⟨_, upd_same, ?_⟩⟩
    have rows : ∀ rs : List Rem, PRow (upd H s.heap.objs.size (.dT (rs.map fun r => (remK r, V.int 1)))) remK PyData.int (rs.map fun r => (r, (1 : Int))) (rs.map fun r => (remK r, V.int 1)) := by
      intro rs
      generalize upd H s.heap.objs.size (.dT (rs.map fun r => (remK r, V.int 1))) = H2
      induction rs with
      | nil => exact .nil
      | cons r rs ih => exact .cons ⟨rfl, .int 1⟩ ih
    exact rows rs
/-! ### lists that are made or stand -/
def EvS (T : List (Addr × Str)) (X : Cx) (e : Expr) (σ : St) (H : Hp) (ds : List PyData) : Prop := ∀ H1, Le T H H1 → ∀ Q : VK, (∀ r xs H2, Le T H1 H2 → H2 r = some (.lst xs) → DtL H2 xs ds → Q (.ref r) H2) → wE X e σ H1 Q
theorem EvL.st (h : EvL T X e σ H ds) : EvS T X e σ H ds := fun H1 l Q q => h H1 l Q fun p xs H2 _ l2 hp hd => q p xs H2 l2 hp hd
theorem es_lst {r : Addr} {xs : List V} (h : Ev T X e σ H (.v (.ref r))) (hr : H r = some (.lst xs)) (hd : DtL H xs ds) : EvS T X e σ H ds := fun H1 l Q q => h H1 l _ fun v H2 l2 h2 => by
  have e : some v = some (V.ref r) := h2
  cases e
  exact q r xs H2 l2 ((l.trans l2).lst hr) (hd.mono (l.trans l2).tk)
theorem eb_cmpL {op : CmpOp} {rr : R2} {k : Bool} (ho : OpR X (compareOp op) rr) (ha : EvS T X a σ H ds) (hb : EvS T X b σ H ds') (hm : behindInMarks op b = false)
    (hr : ∀ v w H3 (Q : VK), Dp X.K H3 v (.list ds) → Dp X.K H3 w (.list ds') → Q (.bl k) H3 → rr v w H3 Q) : EB T X (.Compare a [op] [b] pos) σ H k := by
  refine ⟨fun H1 l Q q => ?_, fun H1 l Q q => ?_⟩
  · refine w_pe (pe_cmpR ho pe_w pe_w hm) (ha H1 l _ fun r xs H2 l2 h2 d2 => hb H2 (l.trans l2) _ fun r' ys H3 l3 h3 d3 => ?_)
    exact hr _ _ H3 Q (.lst (SqL.of (l3.lst h2)) (d2.mono l3.tk).dp) (.lst (SqL.of h3) d3.dp) (q _ _ (l2.trans l3) ⟨_, rfl, .bl k⟩)
  · refine w_pt (pt_cmpR ho pe_w pe_w hm) (ha H1 l _ fun r xs H2 l2 h2 d2 => hb H2 (l.trans l2) _ fun r' ys H3 l3 h3 d3 => ?_)
    exact hr _ _ H3 _ (.lst (SqL.of (l3.lst h2)) (d2.mono l3.tk).dp) (.lst (SqL.of h3) d3.dp) ⟨k, rfl, q _ (l2.trans l3)⟩
theorem eqv_nilL (ds : List PyData) : PyData.eqv (.list ds) (.list []) = ds.isEmpty := by cases ds <;> simp [PyData.eqv, PyData.eqvAll]
theorem shaped_nilL : SeqAt.shaped (.list []) = true := by simp [SeqAt.shaped, PyData.canLay0, PyData.canLayAll0, PyData.depth, PyData.depthAll]
/-- l == [], l != [] -/
theorem eb_eqNil {p3 : Pos} (hu : X.A.units + 64 < cLine) (ha : EvS T X a σ H ds) (s1 : SeqAt.shaped (.list ds) = true) : EB T X (.Compare a [.Eq] [.List [] p3] pos) σ H ds.isEmpty :=
  eb_cmpL (op_eqD hu) ha (EvL.st (ev_lst (ds := []) ea_nil)) (nomark _) fun v w H3 Q h2 h3 q => ⟨_, _, h2, h3, s1, shaped_nilL, by rw [eqv_nilL]; exact q⟩
theorem eb_neNil {p3 : Pos} (hu : X.A.units + 64 < cLine) (ha : EvS T X a σ H ds) (s1 : SeqAt.shaped (.list ds) = true) : EB T X (.Compare a [.NotEq] [.List [] p3] pos) σ H (!ds.isEmpty) :=
  eb_cmpL (op_neD hu) ha (EvL.st (ev_lst (ds := []) ea_nil)) (nomark _) fun v w H3 Q h2 h3 q => ⟨_, _, h2, h3, s1, shaped_nilL, by rw [eqv_nilL]; exact q⟩
/-! shapes of lists of plain data -/
theorem shaped_list {ds : List PyData} (h : ∀ d ∈ ds, d.canLay0 = true ∧ d.depth ≤ 10) : SeqAt.shaped (.list ds) = true := by
  have h1 : PyData.canLayAll0 ds = true ∧ PyData.depthAll ds ≤ 10 := by
    induction ds with
    | nil => exact ⟨by simp [PyData.canLayAll0], by simp [PyData.depthAll]⟩
    | cons d ds ih =>
      obtain ⟨a1, a2⟩ := ih fun x hx => h x (List.mem_cons_of_mem _ hx)
      obtain ⟨b1, b2⟩ := h d List.mem_cons_self
      exact ⟨by simp [PyData.canLayAll0, b1, a1], by simp only [PyData.depthAll]; omega⟩
  show ((PyData.list ds).canLay0 && decide ((PyData.list ds).depth ≤ 64)) = true
  rw [Bool.and_eq_true]
  refine ⟨by simp only [PyData.canLay0]; exact h1.1, decide_eq_true ?_⟩
  simp only [PyData.depth]
  omega
theorem layR (x : Rem) : (encR x).canLay0 = true ∧ (encR x).depth ≤ 10 := by
  have k3 : PyData.strOk kSw = true := by decide +kernel
  have k4 : PyData.strOk kFe = true := by decide +kernel
  obtain ⟨b, t, a⟩ := x
  cases b <;> simp [encR, wordOf, PyData.canLay0, PyData.canLayAll0, PyData.depth, PyData.depthAll, k3, k4]
theorem shapedR (x : Rem) : SeqAt.shaped (encR x) = true := by
  have h := layR x
  show ((encR x).canLay0 && decide ((encR x).depth ≤ 64)) = true
  rw [h.1]
  have := h.2
  simp
  omega
theorem shapedRs (rs : List Rem) : SeqAt.shaped (.list (rs.map encR)) = true := shaped_list fun d hd => by
  obtain ⟨x, _, rfl⟩ := List.mem_map.mp hd
  exact layR x
theorem eqv_encR (x y : Rem) : PyData.eqv (encR x) (encR y) = decide (x = y) := by
  obtain ⟨b, t, a⟩ := x
  obtain ⟨b', t', a'⟩ := y
  rw [Bool.eq_iff_iff]
  simp only [encR, PyData.eqv, PyData.eqvAll, Bool.and_eq_true, beq_iff_eq, decide_eq_true_eq, Prod.mk.injEq, Int.natCast_inj]
  constructor
  · rintro ⟨h1, h2, h3, _⟩
    exact ⟨wordOf_inj h1, h2, h3⟩
  · rintro ⟨rfl, rfl, rfl⟩
    simp
end
end RF
set_option Elab.async false
set_option linter.all false
set_option maxRecDepth 100000
set_option maxHeartbeats 4000000
/-! class Market: cutters, last_point -/
namespace RF
open PySem PySem.Spec L2 LamX NdefX
open PyProof.Rows hiding St
open PySem.W (dataLe)

section
variable {X : Cx} {T : List (Addr × Str)} {a b e o : Expr} {σ : St} {H : Hp} {pos p apos : Pos} {ds : List PyData} {d z : PyData} {q : Addr} {xs : List V}
/-- l.index(e) -/
theorem ev_index {j : Nat} (hu : X.A.units + 65 < cLine) (ho : Ev T X o σ H (.v (.ref q))) (hq : H q = some (.lst xs)) (hx : DtL H xs ds) (he : EvD T X e σ H d) (s1 : SeqAt.shaped (.list ds) = true) (s2 : SeqAt.shaped d = true) (hj : ds[j]? = some z) (hz : PyData.eqv z d = true) (hno : ∀ (m : Nat) (z' : PyData), m < j → ds[m]? = some z' → PyData.eqv z' d = false)
    (hbm : PE X (.Call (.Attribute o "index" apos) [e] [] pos) (tBM X.K "list" (rIndexD X.K) (wE X o) (wA X [e])))
    (hst : starEach [e] X.env = (false, eval e X.env) :: starEach [] X.env := by rfl) : EvD T X (.Call (.Attribute o "index" apos) [e] [] pos) σ H (.int (j : Nat)) := fun H1 l Q q' => by
  refine w_pe hbm (ho H1 l _ fun v H2 l2 h2 => ?_)
  have h2' : some v = some (V.ref q) := h2
  cases h2'
  have hq2 := (l.trans l2).lst hq
  refine ⟨.inl ⟨rfl, xs, SqL.of hq2⟩, ?_⟩
  refine w_pa (pa_cons pe_w pa_nil hst) (he H2 (l.trans l2) _ fun v H3 l3 h3 => ?_)
  obtain ⟨_, e, h3⟩ := h3
  cases e
  have lt := (l.trans l2).trans l3
  exact ⟨q, v, d, ds, j, z, rfl, rfl, .lst (SqL.of (lt.lst hq)) (hx.mono lt.tk).dp, h3.dp, s1, s2, hj, hz, hno, q' _ H3 (l2.trans l3) ⟨_, rfl, .int _⟩⟩
/-- min of a new list of ints -/
def minL : List Int → Int
  | [] => 0
  | x :: xs => xs.foldl min x
theorem foldl_min : ∀ (xs : List Int) (x : Int), xs.foldl min x ≤ x ∧ (∀ y ∈ xs, xs.foldl min x ≤ y) ∧ (xs.foldl min x = x ∨ xs.foldl min x ∈ xs)
  | [], x => ⟨by simp, (fun y hy => by cases hy), .inl rfl⟩
  | z :: xs, x => by
    obtain ⟨h1, h2, h3⟩ := foldl_min xs (min x z)
    rw [List.foldl_cons]
    refine ⟨by omega, fun y hy => ?_, ?_⟩
    · rcases List.mem_cons.mp hy with rfl | hy
      · omega
      · exact h2 y hy
    · rcases h3 with h3 | h3
      · rw [h3]
        rcases Int.le_total x z with h | h
        · left; omega
        · right; rw [Int.min_eq_right h]; exact List.mem_cons_self
      · exact .inr (List.mem_cons_of_mem _ h3)
theorem minL_le {l : List Int} : ∀ y ∈ l, minL l ≤ y := by
  cases l with
  | nil => intro y hy; cases hy
  | cons x xs =>
    intro y hy
    obtain ⟨h1, h2, _⟩ := foldl_min xs x
    rcases List.mem_cons.mp hy with rfl | hy
    · exact h1
    · exact h2 y hy
theorem minL_mem {l : List Int} (h : l ≠ []) : minL l ∈ l := by
  cases l with
  | nil => exact absurd rfl h
  | cons x xs =>
    obtain ⟨_, _, h3⟩ := foldl_min xs x
    rcases h3 with h3 | h3
    · show xs.foldl min x ∈ _
      rw [h3]
      exact List.mem_cons_self
    · exact List.mem_cons_of_mem _ h3
theorem ev_minN {ns : List Int} (c : Fx X) (h : EvL T X a σ H (ns.map .int)) (hne : ns ≠ []) (hm : X.mg "min" = none) (hg : Gl X "min" := by rfl) (hst : starEach [a] X.env = (false, eval a X.env) :: starEach [] X.env := by rfl) (hpl : (backTo pos (starEach [] X.env)).any (·.1) = false := by rfl) :
    EvD T X (.Call (.Name "min" p) [a] [] pos) σ H (.int (minL ns)) := fun H1 l Q q => by
  refine w_pe (pe_callB (cr_min c.calm) hg hm boot_min (pa_cons pe_w pa_nil hst) (by decide) (by decide) hst hpl) (h H1 l _ fun r xs H2 _ l2 hr hd => ?_)
  rw [vals_int hd] at hr
  refine ⟨r, ns, rfl, SqL.of hr, List.length_pos_iff.mpr hne, fun m h1 h2 => ?_⟩
  have e : m = minL ns := Int.le_antisymm (h2 _ (minL_mem hne)) (minL_le _ h1)
  subst e
  exact q _ H2 l2 ⟨_, rfl, .int _⟩
theorem ev_sumN {ns : List Int} (c : Fx X) (h : EvL T X a σ H (ns.map .int)) (hm : X.mg "sum" = none) (hg : Gl X "sum" := by rfl) (hst : starEach [a] X.env = (false, eval a X.env) :: starEach [] X.env := by rfl) (hpl : (backTo pos (starEach [] X.env)).any (·.1) = false := by rfl) :
    EvD T X (.Call (.Name "sum" p) [a] [] pos) σ H (.int ns.sum) := fun H1 l Q q => by
  refine w_pe (pe_callB (cr_sum c.calm) hg hm boot_sum (pa_cons pe_w pa_nil hst) (by decide) (by decide) hst hpl) (h H1 l _ fun r xs H2 _ l2 hr hd => ?_)
  rw [vals_int hd] at hr
  exact ⟨r, ns, rfl, SqL.of hr, q _ H2 l2 ⟨_, rfl, .int _⟩⟩
end
/-! ### the class -/
structure MktT (K : PySem.W.Frag) (C : Addr) : Prop where
  cl : Cls K C
  nP : NoAttr K C "price_of"
  nL : NoAttr K C "line"
  nR : NoAttr K C "rest"
  nW : NoAttr K C "weight_of"
  nQ : NoAttr K C "paid"
  nS : NoAttr K C "pairs"
  nI : NoAttr K C "is_possible"
/-- where its parts stand -/
structure MkA where
  dp : Addr
  dl : Addr
  dr : Addr
  dw : Addr
  dq : Addr
  vp : V
structure MkFs (fs : List (Str × V)) (M : MkA) : Prop where
  p : fs.lookup ("price_of" : Str) = some (.ref M.dp)
  l : fs.lookup ("line" : Str) = some (.ref M.dl)
  r : fs.lookup ("rest" : Str) = some (.ref M.dr)
  w : fs.lookup ("weight_of" : Str) = some (.ref M.dw)
  q : fs.lookup ("paid" : Str) = some (.ref M.dq)
  s : fs.lookup ("pairs" : Str) = some M.vp
  m1 : fs.lookup ("cutters" : Str) = none
  m2 : fs.lookup ("last_point" : Str) = none
  m3 : fs.lookup ("pay" : Str) = none
  m4 : fs.lookup ("bought" : Str) = none
def MktAt (C : Addr) (H : Hp) (a : Addr) (M : MkA) : Prop := ∃ dx fs, H a = some (.ins C dx fs) ∧ MkFs fs M
def MktLn (H : Hp) (M : MkA) (line : List Rem) : Prop := ∃ xl, H M.dl = some (.lst xl) ∧ DtL H xl (line.map encR)
section
variable {T : List (Addr × Str)} {X : Cx} {H H' : Hp} {C a : Addr} {M : MkA} {line : List Rem} {σ : St} {o e : Expr} {pos apos : Pos} {y : Tri}
theorem MktAt.le (l : Le T H H') (w : MktAt C H a M) : MktAt C H' a M := by
  obtain ⟨dx, fs, h1, h2⟩ := w
  exact ⟨dx, fs, l.ins h1, h2⟩
theorem MktLn.le (l : Le T H H') (w : MktLn H M line) : MktLn H' M line := by
  obtain ⟨xl, h1, h2⟩ := w
  exact ⟨xl, l.lst h1, h2.mono l.tk⟩
theorem mk_fld {f : Str} {v : V} (cl : Cls X.K C) (n : NoAttr X.K C f) (w : MktAt C H a M) (hv : ∀ fs, MkFs fs M → fs.lookup f = some v) (ho : Ev T X o σ H (.v (.ref a))) (hb : attributeBase o f X.env (eval o X.env) = eval o X.env := by rfl) : Ev T X (.Attribute o f pos) σ H (.v v) := by
  obtain ⟨dx, fs, h1, h2⟩ := w
  exact ev_fld cl n ho h1 (hv fs h2) hb
end
section
variable {P : Program} {w : World} {K : PySem.W.Frag} {mg : Str → Option Value} {base : Heap} {T : List (Addr × Str)} {f : Addr} {fd : FuncData} {k : Nat} {C : Addr}
def spCut (T : List (Addr × Str)) (C : Addr) : Sp := fun vs H Q _ => ∃ (a : Addr) (M : MkA) (line : List Rem) (y : Tri) (v1 : V), vs = [.ref a, v1] ∧ MktAt C H a M ∧ MktLn H M line ∧ Dt H v1 (encT y) ∧ line.length ≤ 10000 ∧
  ∀ p xs H', H p = none → Le T H H' → H' p = some (.lst xs) → DtL H' xs ((line.filter fun x => cutsM x y).map encR) → Q (.ref p) H'
abbrev nMc : List Str := ["self", "pair", "remedy"]
theorem ok_cutters (W : MktT K C) (F : Fun K "cutters" "Market.cutters" (clsM 34 1) f fd) (C1 : Cal P w K mg base k "cuts" ["remedy", "pair"] (spR T 2 rCuts)) : FnOk P w K mg base CX0 (k + 1) f fd ["self", "pair"] (spCut T C) := by
  have S : FnScope nMc ["self", "pair"] (defScope (clsM 34 1)) := ⟨rfl, rfl, rfl, by decide +kernel, rfl, by decide +kernel, by decide +kernel⟩
  refine fun_okW F S (fun vs H Q E h => ?_) fun X cdv A outer s H vs Q E e c hr h => ?_
  · obtain ⟨a, M, line, y, v1, rfl, _⟩ := h
    rfl
  subst e
  obtain ⟨a, M, line, y, v1, rfl, ma, ml, h1, hl, q⟩ := h
  have g : Sg H (L2.start nMc [.ref a, v1]) [.v (.ref a), .d (encT y), .x] := .cons rfl (.cons ⟨_, rfl, h1⟩ (.cons True.intro .nil))
  obtain ⟨xl, hx, hd⟩ := ml
  refine s_retNew (T := T) (ds := (line.filter fun x => cutsM x y).map encR) ?_ q
  refine EvL.to (ev_lc c (enc := encR) (L := line) (ei_lst (mk_fld W.cl W.nL ma (fun fs h => h.l) (ev_v 0 g rfl)) hx hd) 2 g (fun x => if cutsM x y = true then some (encR x) else none) (fun x H' σ2 Xb hx l' hb g2 => ?_) (by omega) (blkOk_by (N := nMc) (sc := defScope (clsM 34 1)) (own := [("remedy", 2)]) (by decide +kernel))) (filterMap_if (fun x => cutsM x y) encR line)
  obtain ⟨s0, H0, C', cl, fp, rfl⟩ := hb
  refine ⟨et_one (EB.t (EB.to (eb_val (ev_callR (ds := [encR x, encT y]) C1 hr (ea_cons (ev_v 2 g2 rfl) (ea_1 (ev_v 1 g2 rfl))) ⟨x, y, rfl, rfl⟩)) ?_)), fun d hd => ?_⟩
  · cases cutsM x y <;> rfl
  · split at hd
    · cases hd
      exact ev_v 2 g2 rfl
    · cases hd
/-- self.cutters(pair) -/
theorem ev_cutters {X : Cx} {σ : St} {H : Hp} {o e : Expr} {a : Addr} {M : MkA} {line : List Rem} {y : Tri} {pos apos : Pos} {pl : Sem Bool} (W : MktT X.K C) (M1 : MetC X.prog X.w X.K X.mg X.base k C "cutters" ["self", "pair"] (spCut T C)) (hr : Room k X.A) (ho : Ev T X o σ H (.v (.ref a))) (ma : MktAt C H a M) (ml : MktLn H M line) (he : EvD T X e σ H (encT y)) (hl : line.length ≤ 10000)
    (hst : starEach [e] X.env = (false, eval e X.env) :: starEach [] X.env := by rfl)
    (ht : eval (.Call (.Attribute o "cutters" apos) [e] [] pos) X.env = (do
      let ov ← eval o X.env
      standAt apos.atName
      let (f, first) ← holding [ov] (getMethod ov "cutters" pl)
      callWith pos f first (backTo pos (starEach [e] X.env)) (backToKw pos (keywordEach [] X.env))) := by rfl) :
    EvL T X (.Call (.Attribute o "cutters" apos) [e] [] pos) σ H ((line.filter fun x => cutsM x y).map encR) := fun H1 l Q q => by
  have ma1 := ma.le l
  have ma1' := ma1
  obtain ⟨dx, fs, hi, hf⟩ := ma1'
  refine w_meth (T := T) (ss := [.d (encT y)]) W.cl M1 hr (ho.mono l) hi hf.m1 (ea_1 (he.mono l) hst) (fun vs H2 l2 hv => ?_) hst rfl ht
  cases hv with
  | cons q1 t =>
    cases t
    obtain ⟨_, e1, q1⟩ := q1
    cases e1
    exact ⟨a, M, line, y, _, rfl, ma1.le l2, (ml.le l).le l2, q1, hl, fun p xs H3 hp l3 hp3 hd3 => q p xs H3 (l2.fr p hp) (l2.trans l3) hp3 hd3⟩
def ptM (line : List Rem) (x : Rem) : Nat := line.findIdx fun z => decide (z = x)
def spLp (T : List (Addr × Str)) (C : Addr) : Sp := fun vs H Q _ => ∃ (a : Addr) (M : MkA) (line : List Rem) (y : Tri) (v1 : V), vs = [.ref a, v1] ∧ MktAt C H a M ∧ MktLn H M line ∧ Dt H v1 (encT y) ∧ line.length ≤ 10000 ∧ line.filter (fun x => cutsM x y) ≠ [] ∧
  ∀ v H', Le T H H' → Dt H' v (.int (ptM line (lastM line y) : Nat)) → Q v H'
abbrev nMl : List Str := ["self", "pair"]
theorem ok_last_point (W : MktT K C) (F : Fun K "last_point" "Market.last_point" (clsM 34 2) f fd) (M1 : MetC P w K mg base k C "cutters" ["self", "pair"] (spCut T C)) : FnOk P w K mg base CX0 (k + 1) f fd ["self", "pair"] (spLp T C) := by
  have S : FnScope nMl ["self", "pair"] (defScope (clsM 34 2)) := ⟨rfl, rfl, rfl, by decide +kernel, rfl, by decide +kernel, by decide +kernel⟩
  refine fun_okW F S (fun vs H Q E h => ?_) fun X cdv A outer s H vs Q E e c hr h => ?_
  · obtain ⟨a, M, line, y, v1, rfl, _⟩ := h
    rfl
  subst e
  obtain ⟨a, M, line, y, v1, rfl, ma, ml, h1, hl, hne, q⟩ := h
  have g : Sg H (L2.start nMl [.ref a, v1]) [.v (.ref a), .d (encT y)] := .cons rfl (.cons ⟨_, rfl, h1⟩ .nil)
  obtain ⟨xl, hx, hd⟩ := id ml
  obtain ⟨zs, hz⟩ := last_of hne
  have hmem : lastM line y ∈ line := by
    have : lastM line y ∈ line.filter fun x => cutsM x y := by rw [hz]; simp
    exact (List.mem_filter.mp this).1
  have hlt : ptM line (lastM line y) < line.length := List.findIdx_lt_length_of_exists ⟨_, hmem, by simp⟩
  have hget : line[ptM line (lastM line y)]? = some (lastM line y) := by
    rw [List.getElem?_eq_getElem hlt]
    have := List.findIdx_getElem (p := fun z => decide (z = lastM line y)) (w := hlt)
    show some line[ptM line (lastM line y)] = _
    unfold ptM
    simpa using this
  refine s_retD (T := T) (ev_index (d := encR (lastM line y)) (z := encR (lastM line y)) (ds := line.map encR) (room65 hr) (mk_fld W.cl W.nL ma (fun fs h => h.l) (ev_v 0 g rfl)) hx hd ?_ (shapedRs _) (shapedR _) (by rw [List.getElem?_map, hget]; rfl) (by rw [eqv_encR]; simp) (fun m z' hm hz' => ?_) (pe_bm PySem.F.plainAttrs_list PySem.F.slot_list_index PySem.F.type_list_index (mt_indexD (room65 hr)) pe_w pa_w)) q
  · refine ev_ixN (ds := zs.map encR ++ [encR (lastM line y)]) (EvL.to (ev_cutters W M1 hr (ev_v 0 g rfl) ma ml (ev_v 1 g rfl) hl) ?_) (ev_neg ev_int) (atI_last _ _)
    rw [hz, List.map_append]
    rfl
  · rw [List.getElem?_map] at hz'
    obtain ⟨x, hx', e⟩ := Option.map_eq_some_iff.mp hz'
    subst e
    rw [eqv_encR]
    have h2 := List.not_of_lt_findIdx (p := fun z => decide (z = lastM line y)) (xs := line) hm
    obtain ⟨hm2, e2⟩ := List.getElem?_eq_some_iff.mp hx'
    rw [e2] at h2
    simpa using h2
end
end RF
set_option Elab.async false
set_option linter.all false
set_option maxRecDepth 100000
set_option maxHeartbeats 4000000
/-! class Market: pay -/
namespace RF
open PySem PySem.Spec L2 LamX NdefX
open PyProof.Rows hiding St
open PySem.W (AllAlike Sortable dataLe alike alikeAll)

section
variable {α : Type} [DecidableEq α] {T : List (Addr × Str)} {X : Cx} {e o i : Expr} {σ : St} {H : Hp} {pos tpos : Pos} {q : Addr} {kf : α → List Key} {L : List (α × Int)} {a : α} {b n : Int} {rest : List Stmt} {D : Ends}
/-- d[i] -= e -/
theorem s_pdec (inj : ∀ a b, kf a = kf b → a = b) (hu : X.A.units + 1 < cLine) (ho : Ev T X o σ H (.v (.ref q))) (hq : DkP H q kf PyData.int L) (hi : EvD T X i σ H (keyD (kf a))) (he : EvD T X e σ H (.int n)) (hb : look L a = some b) (hl : L.length < 100000)
    (kk : ∀ H', LeX T (At q) H H' → Tk H H' → DkP H' q kf PyData.int (putA L a (b - n)) → wSs X rest D σ H') (ha : ∀ ov iv new, augStore i ov iv new = (do holding [new, ov, iv] (setItem ov iv new); release [new, ov, iv] []; pure .next) := by exact fun _ _ _ => rfl) :
    wSs X (.AugAssign (.Subscript o i tpos) .Sub e pos :: rest) D σ H := by
  refine s_cons (w_ps (ps_daug (rd := rI0 fun i j => .int (i - j)) hu pe_w pe_w pe_w (fun pins s σ H x y u v Q I rx ry h => iop_sub pins s σ H x y u v Q I rx ry h) ha) ?_)
  refine ho H (.refl H) _ fun x H1 l1 h1 => hi H1 l1 _ fun y H2 l2 h2 => ?_
  have e : some x = some (V.ref q) := h1
  cases e
  obtain ⟨_, e, h2⟩ := h2
  cases e
  obtain ⟨kb, rfl, hkb⟩ := key_at h2
  have hq2 := hq.le (l1.trans l2)
  obtain ⟨kvs, hk, hr⟩ := hq2
  have h3 := hr.look inj a
  rw [hb] at h3
  obtain ⟨v, hv, hd⟩ := h3
  obtain rfl := hd.inv_int
  refine ⟨q, .int b, rfl, ?_, he H2 (l1.trans l2) _ fun z H3 l3 h3 => ?_⟩
  · rw [← hv]
    exact DGet.t hk hkb
  obtain ⟨_, e, h3⟩ := h3
  cases e
  obtain rfl := h3.inv_int
  refine ⟨b, n, rfl, rfl, _, DPut.t (l3.dct hk) (l3.tk _ _ hkb) ?_, kk _ (LeX.updD (.of ((l1.trans l2).trans l3)) rfl (l3.dct hk)) (((l1.trans l2).trans l3).tk.trans (tk_dT (l3.dct hk))) ⟨_, upd_same, ((hr.mono l3.tk).put inj a (b := b - n) (.int _)).mono (tk_dT (l3.dct hk))⟩⟩
  rw [← Paired.length hr, sizeLine_eq]
  omega
end
/-! ### what it computes -/
def lk (R : List (Rem × Int)) (r : Rem) : Int := (look R r).getD 0
def decM (R : List (Rem × Int)) (least : Int) (r : Rem) : List (Rem × Int) := putA R r (lk R r - least)
def someM (line : List Rem) (y : Tri) : List Rem := line.filter fun x => cutsM x y
def leastM (line : List Rem) (R : List (Rem × Int)) (y : Tri) : Int := minL ((someM line y).map (lk R))
def restM (line : List Rem) (R : List (Rem × Int)) (y : Tri) : List (Rem × Int) := (someM line y).foldl (fun R' r => decM R' (leastM line R y) r) R
def newM (line : List Rem) (st : List (Rem × Int) × List Rem) (y : Tri) : List Rem := (someM line y).filter fun r => decide (lk (restM line st.1 y) r = 0) && !decide (r ∈ st.2)
def payStep (line : List Rem) (st : List (Rem × Int) × List Rem) (y : Tri) : List (Rem × Int) × List Rem :=
  (restM line st.1 y, if ((someM line y).any fun r => decide (r ∈ st.2)) = true then st.2 else st.2 ++ [((newM line st y).getLast?).getD (false, 0, 0)])
def keyP (line : List Rem) (y : Tri) : PyData := .tuple [.int (ptM line (lastM line y) : Nat), encT y]
def payM (line : List Rem) (st : List (Rem × Int) × List Rem) (pairs : List Tri) : List (Rem × Int) × List Rem := (pairs.mergeSort (dataLe false (keyP line))).foldl (payStep line) st
theorem putA_len {α β : Type} [DecidableEq α] {L : List (α × β)} {a : α} {b : β} (h : (look L a).isSome = true) : (putA L a b).length = L.length := by
  unfold putA
  rw [look_any, if_pos h, List.length_map]
theorem decM_look (R : List (Rem × Int)) (n : Int) (r c : Rem) : look (decM R n r) c = if c = r then some (lk R r - n) else look R c := look_put _ _ _ _
theorem dec_fold (n : Int) : ∀ (rs : List Rem) (R : List (Rem × Int)), rs.Nodup → (∀ r ∈ rs, (look R r).isSome = true) → (rs.foldl (fun R' r => decM R' n r) R).length = R.length ∧ ∀ c, look (rs.foldl (fun R' r => decM R' n r) R) c = if c ∈ rs then some (lk R c - n) else look R c
  | [], R, _, _ => ⟨rfl, fun c => by simp⟩
  | r :: rs, R, nd, hs => by
    rw [List.nodup_cons] at nd
    obtain ⟨h1, h2⟩ := dec_fold n rs (decM R n r) nd.2 fun x hx => by
      rw [decM_look]
      split
      · rfl
      · exact hs x (List.mem_cons_of_mem _ hx)
    rw [List.foldl_cons]
    refine ⟨h1.trans (putA_len (hs r List.mem_cons_self)), fun c => ?_⟩
    rw [h2 c]
    by_cases hc : c = r
    · subst hc
      rw [if_neg nd.1, decM_look, if_pos rfl, if_pos List.mem_cons_self]
    · by_cases hm : c ∈ rs
      · rw [if_pos hm, if_pos (List.mem_cons_of_mem _ hm)]
        unfold lk
        rw [decM_look, if_neg hc]
      · rw [if_neg hm, decM_look, if_neg hc, if_neg (by simp [hc, hm])]
/-- all of the line is in the dict -/
def RestOk (line : List Rem) (R : List (Rem × Int)) : Prop := ∀ r ∈ line, (look R r).isSome = true
theorem lk_some {R : List (Rem × Int)} {r : Rem} (h : (look R r).isSome = true) : look R r = some (lk R r) := by
  obtain ⟨x, hx⟩ := Option.isSome_iff_exists.mp h
  unfold lk
  rw [hx]
  rfl
theorem restM_ok {line : List Rem} {R : List (Rem × Int)} (y : Tri) (nd : line.Nodup) (h : RestOk line R) : RestOk line (restM line R y) ∧ (restM line R y).length = R.length ∧ ∀ c, look (restM line R y) c = if c ∈ someM line y then some (lk R c - leastM line R y) else look R c := by
  have h1 := dec_fold (leastM line R y) (someM line y) R (nd.filter _) fun r hr => h r (List.mem_filter.mp hr).1
  refine ⟨fun r hr => ?_, h1.1, h1.2⟩
  have e : look (restM line R y) r = _ := h1.2 r
  rw [e]
  split
  · rfl
  · exact h r hr
theorem newM_ne {line : List Rem} {st : List (Rem × Int) × List Rem} {y : Tri} (nd : line.Nodup) (h : RestOk line st.1) (hs : someM line y ≠ []) (hp : ((someM line y).any fun r => decide (r ∈ st.2)) = false) : newM line st y ≠ [] := by
  have hm := minL_mem (l := (someM line y).map (lk st.1)) (by simpa using hs)
  obtain ⟨r, hr, e⟩ := List.mem_map.mp hm
  have : r ∈ newM line st y := by
    refine List.mem_filter.mpr ⟨hr, ?_⟩
    rw [Bool.and_eq_true]
    constructor
    · unfold lk
      rw [(restM_ok y nd h).2.2 r, if_pos hr]
      show decide ((lk st.1 r - minL ((someM line y).map (lk st.1))) = 0) = true
      rw [← e]
      simp
    · have := List.any_eq_false.mp hp r hr
      simpa using this
  intro z
  rw [z] at this
  cases this
end RF
set_option Elab.async false
set_option linter.all false
set_option maxRecDepth 100000
set_option maxHeartbeats 8000000
/-! class Market: pay, its walk -/
namespace RF
open PySem PySem.Spec L2 LamX NdefX
open PyProof.Rows hiding St
open PySem.W (AllAlike Sortable dataLe alike alikeAll)

structure MkNe (M : MkA) : Prop where
  lq : M.dl ≠ M.dq
  rw : M.dr ≠ M.dw
def MktDy (H : Hp) (M : MkA) (R : List (Rem × Int)) (Wt : List (Tri × Int)) (paid : List Rem) : Prop := DkP H M.dr remK PyData.int R ∧ DkP H M.dw triK PyData.int Wt ∧ ∃ xq, H M.dq = some (.lst xq) ∧ DtL H xq (paid.map encR)
abbrev W3 (M : MkA) : Addr → Prop := fun b => b = M.dr ∨ b = M.dw ∨ b = M.dq
section
variable {T : List (Addr × Str)} {X : Cx} {H H' : Hp} {C a : Addr} {M : MkA} {line : List Rem} {R : List (Rem × Int)} {Wt : List (Tri × Int)} {paid : List Rem}
theorem MktDy.le (l : Le T H H') (x : MktDy H M R Wt paid) : MktDy H' M R Wt paid := by
  obtain ⟨h1, h2, xq, h3, h4⟩ := x
  exact ⟨h1.le l, h2.le l, xq, l.lst h3, h4.mono l.tk⟩
theorem w3_tk (x : MktDy H M R Wt paid) (l : LeX T (W3 M) H H') : Tk H H' := l.tk fun b ys e z => by
  obtain ⟨⟨k1, h1, _⟩, ⟨k2, h2, _⟩, xq, h3, _⟩ := x
  rcases e with e | e | e
  · rw [e, h1] at z; cases z
  · rw [e, h2] at z; cases z
  · rw [e, h3] at z; cases z
theorem MktAt.lex (x : MktDy H M R Wt paid) (l : LeX T (W3 M) H H') (w : MktAt C H a M) : MktAt C H' a M := by
  obtain ⟨⟨k1, h1, _⟩, ⟨k2, h2, _⟩, xq, h3, _⟩ := x
  obtain ⟨dx, fs, hi, hf⟩ := w
  refine ⟨dx, fs, l.ex a _ (fun e => ?_) hi (fun _ z => by cases z), hf⟩
  rcases e with e | e | e
  · rw [e, h1] at hi; cases hi
  · rw [e, h2] at hi; cases hi
  · rw [e, h3] at hi; cases hi
theorem MktLn.lex (ne : MkNe M) (x : MktDy H M R Wt paid) (l : LeX T (W3 M) H H') (w : MktLn H M line) : MktLn H' M line := by
  have tk := w3_tk x l
  obtain ⟨⟨k1, h1, _⟩, ⟨k2, h2, _⟩, xq, h3, _⟩ := x
  obtain ⟨xl, hx, hd⟩ := w
  refine ⟨xl, l.ex _ _ (fun e => ?_) hx (fun _ z => by cases z), hd.mono tk⟩
  rcases e with e | e | e
  · rw [e, h1] at hx; cases hx
  · rw [e, h2] at hx; cases hx
  · exact ne.lq e
end
theorem triK_inj' (a b : Tri) (h : triK a = triK b) : a = b := triK_inj h
section
variable {P : Program} {w : World} {K : PySem.W.Frag} {mg : Str → Option Value} {base : Heap} {T : List (Addr × Str)} {f c0 : Addr} {fd : FuncData} {k : Nat} {C : Addr}
/-- self.last_point(pair) -/
theorem ev_lastpt {X : Cx} {σ : St} {H : Hp} {o e : Expr} {a : Addr} {M : MkA} {line : List Rem} {y : Tri} {pos apos : Pos} {pl : Sem Bool} (W : MktT X.K C) (M1 : MetC X.prog X.w X.K X.mg X.base k C "last_point" ["self", "pair"] (spLp T C)) (hr : Room k X.A) (ho : Ev T X o σ H (.v (.ref a))) (ma : MktAt C H a M) (ml : MktLn H M line) (he : EvD T X e σ H (encT y)) (hl : line.length ≤ 10000) (hne : line.filter (fun x => cutsM x y) ≠ [])
    (hst : starEach [e] X.env = (false, eval e X.env) :: starEach [] X.env := by rfl)
    (ht : eval (.Call (.Attribute o "last_point" apos) [e] [] pos) X.env = (do
      let ov ← eval o X.env
      standAt apos.atName
      let (f, first) ← holding [ov] (getMethod ov "last_point" pl)
      callWith pos f first (backTo pos (starEach [e] X.env)) (backToKw pos (keywordEach [] X.env))) := by rfl) :
    EvD T X (.Call (.Attribute o "last_point" apos) [e] [] pos) σ H (.int (ptM line (lastM line y) : Nat)) := fun H1 l Q q => by
  have ma1 := ma.le l
  have ma1' := ma1
  obtain ⟨dx, fs, hi, hf⟩ := ma1'
  refine w_meth (T := T) (ss := [.d (encT y)]) W.cl M1 hr (ho.mono l) hi hf.m2 (ea_1 (he.mono l) hst) (fun vs H2 l2 hv => ?_) hst rfl ht
  cases hv with
  | cons q1 t =>
    cases t
    obtain ⟨_, e1, q1⟩ := q1
    cases e1
    exact ⟨a, M, line, y, _, rfl, ma1.le l2, (ml.le l).le l2, q1, hl, hne, fun v H3 l3 hv3 => q v H3 (l2.trans l3) ⟨_, rfl, hv3⟩⟩
def spPay (T : List (Addr × Str)) (C : Addr) : Sp := fun vs H Q _ => ∃ (a : Addr) (M : MkA) (line : List Rem) (R : List (Rem × Int)) (pairs : List Tri), vs = [.ref a] ∧ Tabs T H ∧ MktAt C H a M ∧ MktLn H M line ∧ MkNe M ∧ line.Nodup ∧ line.length ≤ 1000 ∧ RestOk line R ∧ R.length ≤ 1000 ∧ MktDy H M R [] [] ∧
  Dt H M.vp (.tuple (pairs.map encT)) ∧ pairs.length ≤ 2000 ∧ (∀ y ∈ pairs, someM line y ≠ []) ∧ ∀ H' Wt, LeX T (W3 M) H H' → MktDy H' M (payM line (R, []) pairs).1 Wt (payM line (R, []) pairs).2 → Q .non H'
abbrev nMp : List Str := ["self", "pair", "some", "least", "remedy", "new"]
theorem alike_keyP (line : List Rem) (L : List Tri) : AllAlike (L.map (keyP line)) := PySem.W.AllAlike.of fun b b' => by simp [keyP, alike, alikeAll]
theorem sortable_keyP (line : List Rem) (L : List Tri) : Sortable (L.map (keyP line)) := PySem.W.Sortable.tuples (enc := keyP line) fun b => ⟨_, _, rfl⟩
theorem pay_inv {line : List Rem} (nd : line.Nodup) : ∀ (ys : List Tri) (st : List (Rem × Int) × List Rem), RestOk line st.1 → RestOk line (ys.foldl (payStep line) st).1 ∧ (ys.foldl (payStep line) st).1.length = st.1.length ∧ (ys.foldl (payStep line) st).2.length ≤ st.2.length + ys.length
  | [], st, h => ⟨h, rfl, Nat.le_refl _⟩
  | y :: ys, st, h => by
    have h1 := restM_ok y nd h
    obtain ⟨a1, a2, a3⟩ := pay_inv nd ys (payStep line st y) h1.1
    rw [List.foldl_cons, List.length_cons]
    refine ⟨a1, a2.trans h1.2.1, ?_⟩
    have : (payStep line st y).2.length ≤ st.2.length + 1 := by
      unfold payStep
      simp only
      split
      · omega
      · simp
    omega
theorem ok_pay (M0 : Nm mg) (W : MktT K C) (F : Fun K "pay" "Market.pay" (clsM 34 3) f fd) (hc0 : fd.code = .ref c0) (LD : LamD T base mg c0 ("Market.pay" ++ ".<locals>." ++ "<lambda>")) (M1 : MetC P w K mg base k C "cutters" ["self", "pair"] (spCut T C)) (M2 : MetC P w K mg base k C "last_point" ["self", "pair"] (spLp T C)) :
    FnOk P w K mg base CX0 (k + 4) f fd ["self"] (spPay T C) := by
  have S : FnScope nMp ["self"] (defScope (clsM 34 3)) := ⟨rfl, rfl, rfl, by decide +kernel, rfl, by decide +kernel, by decide +kernel⟩
  refine fun_okC F hc0 S (fun vs H Q E h => ?_) fun X A outer s H vs Q E e c hr h => ?_
  · obtain ⟨a, M, line, R, pairs, rfl, _⟩ := h
    rfl
  subst e
  obtain ⟨a, M, line, R, pairs, rfl, hT, ma, ml, ne, nd, hll, hR, hRl, dy, hp, hpl, hne, q⟩ := h
  have hu := room1 hr
  have M1' : MetC P w K mg base (k + 3) C "cutters" ["self", "pair"] (spCut T C) := M1.mono (by omega)
  have g : Sg H (L2.start nMp [.ref a]) [.v (.ref a), .x, .x, .x, .x, .x] := .cons rfl (.cons True.intro (.cons True.intro (.cons True.intro (.cons True.intro (.cons True.intro .nil)))))
  generalize hσ0 : L2.start nMp [V.ref a] = σ0 at g ⊢
  obtain ⟨Pt, tb, hm, hu2⟩ := LD.ex
  have Lm : LamT T (cxOf CX0 P w K mg base nMp "Market.pay" (defScope (clsM 34 3)) f (.ref c0) A outer s H E).nox := ⟨c0, Pt, tb, rfl, hm, hu2⟩
  refine s_for (T := T) c (enc := encT) (L := pairs.mergeSort (dataLe false (keyP line))) (ei_new (EvL.to (ev_sortedKey (T := T) (enc := encT) (key := keyP line) (bs := pairs) (fr := ["self"]) (js := [0]) (N := ["one", "self"]) (x1 := "one") Lm hT
      (ec_tup (EvD.ofV (mk_fld W.cl W.nS ma (fun fs h => h.s) (ev_v 0 g rfl)) hp)) (alike_keyP _ _) (sortable_keyP _ _) (by omega) (fun y _ => by simp [keyP, PyData.depth, PyData.depthAll]) hr (nscope_by (by decide +kernel)) rfl (ndef_free (fr := ["self"]) (by show ndefB (defScope (clsM 34 3)) _ _ = true; decide +kernel)) (ndef_fr (sc := defScope (clsM 34 3)) (by decide +kernel)) (fun y vy H' Xl hy il l' dy' => ?_) M0.sorted) rfl))
    (fun Hs n σ' H' => Le T H Hs ∧ LeX T (W3 M) Hs H' ∧ Sg H' σ' [.v (.ref a), .x, .x, .x, .x, .x] ∧ ∃ Wt, MktDy H' M (((pairs.mergeSort (dataLe false (keyP line))).take n).foldl (payStep line) (R, [])).1 Wt (((pairs.mergeSort (dataLe false (keyP line))).take n).foldl (payStep line) (R, [])).2 ∧ Wt.length ≤ n)
    (fun H2 l => ⟨l, .refl _, g.mono l.tk, [], by rw [List.take_zero]; exact dy.le l, Nat.le_refl _⟩)
    (fun H2 n σ' H' l j => ⟨w3_tk (dy.le l) j.2.1, fun r ys hn hh => j.2.1.ex r _ (fun z => ?_) hh fun _ z => by cases z⟩)
    (fun H2 n σ' H' H3 j l => ⟨j.1, j.2.1.trans (.of l), j.2.2.1.mono l.tk, let ⟨Wt, h1, h2⟩ := j.2.2.2; ⟨Wt, h1.le l, h2⟩⟩)
    (fun H2 n y v σ' H' l hy j dv => ?_) fun H2 σ' H' l j => ?_
  · -- the key
    obtain ⟨c', fl, Al, sl, Hl, rfl, hrl⟩ := il
    have gs : SlOk H' (NdefX.slotAt σ0 0) (.v (.ref a)) := (g.mono l'.tk).slot rfl
    have gl : Sg H' (startF ["one", "self"] [vy] ([0].map (NdefX.slotAt σ0))) [.d (encT y), .v (.ref a)] := .cons ⟨_, rfl, dy'⟩ (.cons gs .nil)
    exact ev_tup (ds := [.int (ptM line (lastM line y) : Nat), encT y]) (ea_cons (ev_lastpt W M2 hrl (ev_v 1 gl rfl) (ma.le l') (ml.le l') (ev_v 0 gl rfl) (by omega) (hne y hy)) (ea_1 (ev_v 0 gl rfl)))
  · have hn' : H r = none := hn
    obtain ⟨⟨k1, h1, _⟩, ⟨k2, h2, _⟩, xq, h3, _⟩ := dy
    rcases z with z | z | z
    · rw [z, h1] at hn'; cases hn'
    · rw [z, h2] at hn'; cases hn'
    · rw [z, h3] at hn'; cases hn'
  · -- a turn
    obtain ⟨j0, j1, j2, Wt, jd, jw⟩ := j
    have hym : y ∈ pairs := List.mem_mergeSort.mp (List.mem_of_getElem? hy)
    have hn2 : n < 2000 := by
      have := (List.getElem?_eq_some_iff.mp hy).1
      rw [List.length_mergeSort] at this
      omega
    have tk1 : ((pairs.mergeSort (dataLe false (keyP line))).take (n + 1)).foldl (payStep line) (R, []) = payStep line (((pairs.mergeSort (dataLe false (keyP line))).take n).foldl (payStep line) (R, [])) y := by
      rw [List.take_add_one, hy, List.foldl_append]
      rfl
    have inv := pay_inv nd ((pairs.mergeSort (dataLe false (keyP line))).take n) (R, []) hR
    rw [tk1]
    generalize hSn : ((pairs.mergeSort (dataLe false (keyP line))).take n).foldl (payStep line) (R, []) = Sn at jd inv ⊢
    obtain ⟨iR, iL, iP⟩ := inv
    have iP2 : Sn.2.length ≤ n := by
      rw [List.length_take] at iP
      simp only [List.length_nil] at iP
      omega
    have dyS := dy.le j0
    have maS := (ma.le j0).lex dyS j1
    have mlS := (ml.le j0).lex ne dyS j1
    have hsl : (someM line y).length ≤ 1000 := Nat.le_trans (List.length_filter_le _ _) hll
    have hsne := hne y hym
    have hsl2 : ∀ r ∈ someM line y, r ∈ line := fun r hr => (List.mem_filter.mp hr).1
    refine g_name (s := .d (encT y)) c 1 j2 ⟨_, rfl, dv⟩ fun σ3 g3 => ?_
    have g3' : Sg H' σ3 [.v (.ref a), .d (encT y), .x, .x, .x, .x] := g3
    -- some = self.cutters(pair)
    refine s_setN (T := T) c 2 g3' (EvL.to (ev_cutters W M1' hr (ev_v 0 g3' rfl) maS mlS (ev_v 1 g3' rfl) (by omega)) rfl) fun rs xs4 σ4 H4 nrs l4 hrs hxs g4 => ?_
    have g4' : Sg H4 σ4 [.v (.ref a), .d (encT y), .v (.ref rs), .x, .x, .x] := g4
    have ma4 := maS.le l4
    have jd4 := jd.le l4
    have hxs4 : DtL H4 xs4 ((someM line y).map encR) := hxs
    -- least = min([..])
    refine s_set (T := T) c 3 g4' (s := .d (.int (leastM line Sn.1 y))) (ev_minN c (EvL.to (ev_lc c (enc := encR) (L := someM line y) (ei_lst (ev_v 2 g4' rfl) hrs hxs4) 4 g4' (fun r => some (.int (lk Sn.1 r))) (fun r H5 σ5 Xb hr5 l5 hb g5 => ?_) (by omega) (blkOk_by (N := nMp) (sc := defScope (clsM 34 3)) (own := [("remedy", 4)]) (by decide +kernel))) (by rw [filterMap_some, List.map_map]; rfl)) (by simpa using hsne) M0.min) fun v5 σ5 H5 l5 _ g5 => ?_
    · obtain ⟨s0, H0, C', cl, fp, rfl⟩ := hb
      refine ⟨et_nil, fun d hd => ?_⟩
      cases hd
      exact ev_pget (ef := PyData.int) (b := lk Sn.1 r) remK_inj hu (mk_fld W.cl W.nR (ma4.le l5) (fun fs h => h.r) (ev_v 0 g5 rfl)) (jd4.le l5).1 (ev_v 4 g5 rfl) (lk_some (iR r (hsl2 r hr5)))
    have g5' : Sg H5 σ5 [.v (.ref a), .d (encT y), .v (.ref rs), .d (.int (leastM line Sn.1 y)), .x, .x] := g5
    have ma5 := ma4.le l5
    have jd5 := jd4.le l5
    have hrs5 := l5.lst hrs
    have hxs5 := hxs4.mono l5.tk
    have lx5 : LeX T (W3 M) H2 H5 := j1.trans (.of (l4.trans l5))
    -- the rest of the turn
    have fin : ∀ (H6 : Hp) (Wt6 : List (Tri × Int)), LeX T (W3 M) H2 H6 → Tk H5 H6 → MktAt C H6 a M → MktDy H6 M Sn.1 Wt6 Sn.2 → H6 rs = some (.lst xs4) → Wt6.length ≤ n + 1 → rs ≠ M.dr → rs ≠ M.dq →
        wSs (cxOf CX0 P w K mg base nMp "Market.pay" (defScope (clsM 34 3)) f (.ref c0) A outer s H E).nox ((defBody (clsM 34 3)).getD 0 (.Pass ⟨0, 0, 0, 0⟩) |> fun st => match st with | .For _ _ b _ _ => b.drop 3 | _ => [])
          { nx := fun σ7 H7 => Le T H H2 ∧ LeX T (W3 M) H2 H7 ∧ Sg H7 σ7 [.v (.ref a), .x, .x, .x, .x, .x] ∧ ∃ Wt, MktDy H7 M (payStep line Sn y).1 Wt (payStep line Sn y).2 ∧ Wt.length ≤ n + 1,
            ct := fun σ7 H7 => Le T H H2 ∧ LeX T (W3 M) H2 H7 ∧ Sg H7 σ7 [.v (.ref a), .x, .x, .x, .x, .x] ∧ ∃ Wt, MktDy H7 M (payStep line Sn y).1 Wt (payStep line Sn y).2 ∧ Wt.length ≤ n + 1,
            bk := wSs (cxOf CX0 P w K mg base nMp "Market.pay" (defScope (clsM 34 3)) f (.ref c0) A outer s H E).nox [] { nx := fun _ H' => Q .non H', rt := Q }, rt := Q } σ5 H6 := by
      intro H6 Wt6 lx6 t6 ma6 jd6 hrs6 hw6 ner neq
      have g6 := g5'.mono t6
      have hxs6 := hxs5.mono t6
      -- for remedy in some: self.rest[remedy] -= least
      refine s_forD (T := T) c (enc := encR) (Ls := someM line y) (ei_lst (ev_v 2 g6 rfl) hrs6 hxs6) g6 jd6.1 (fun R' r => decM R' (leastM line Sn.1 y) r) (fun q hq => by rw [show q = rs from hq]; exact ner) (fun m r v σ7 H7 My hr7 hMy lx7 tk7 g7 dk7 dv7 => ?_) fun σ7 H7 lx7 tk7 g7 dk7 => ?_
      · have hrm := List.mem_of_getElem? hr7
        have ok7 : RestOk line My ∧ My.length = Sn.1.length := by
          rw [hMy]
          have d := dec_fold (leastM line Sn.1 y) ((someM line y).take m) Sn.1 ((nd.filter _).sublist (List.take_sublist _ _)) fun x hx => iR x (hsl2 x (List.take_subset _ _ hx))
          refine ⟨fun x hx => ?_, d.1⟩
          rw [d.2 x]
          split
          · rfl
          · exact iR x hx
        refine g_name (s := .d (encR r)) c 4 g7 ⟨_, rfl, dv7⟩ fun σ8 g8 => ?_
        have g8' : Sg H7 σ8 [.v (.ref a), .d (encT y), .v (.ref rs), .d (.int (leastM line Sn.1 y)), .d (encR r), .x] := g8
        have ma7 : MktAt C H7 a M := by
          obtain ⟨dx, fs, hi, hf⟩ := ma6
          refine ⟨dx, fs, lx7.ex a _ (fun e => ?_) hi (fun _ z => by cases z), hf⟩
          obtain ⟨kv, hk, _⟩ := jd6.1
          rw [show a = M.dr from e, hk] at hi
          cases hi
        refine s_pdec (T := T) (b := lk My r) (a := r) remK_inj hu (mk_fld W.cl W.nR ma7 (fun fs h => h.r) (ev_v 0 g8' rfl)) dk7 (ev_v 4 g8' rfl) (ev_v 3 g8' rfl) (lk_some (ok7.1 r (hsl2 r hrm))) (by rw [ok7.2, iL]; show R.length < 100000; omega) fun H9 lx9 tk9 dk9 => s_nil ⟨lx9, (g8'.mono tk9).forget 4, dk9⟩
      · have okR := restM_ok y nd iR
        have dkR : DkP H7 M.dr remK PyData.int (restM line Sn.1 y) := dk7
        have lx67 : LeX T (W3 M) H6 H7 := lx7.imp fun b e => .inl e
        have ma7 := ma6.lex jd6 lx67
        have dw7 : DkP H7 M.dw triK PyData.int Wt6 := by
          obtain ⟨kv, hk, hr7⟩ := jd6.2.1
          exact ⟨kv, lx7.ex _ _ (fun e => ne.rw (show M.dw = M.dr from e).symm) hk (fun _ z => by cases z), hr7.mono tk7⟩
        obtain ⟨xq, hq6, hdq6⟩ := jd6.2.2
        have hq7 : H7 M.dq = some (.lst xq) := lx7.ex _ _ (fun e => by
          obtain ⟨kv, hk, _⟩ := jd6.1
          rw [show M.dq = M.dr from e, hk] at hq6
          cases hq6) hq6 fun _ z => by cases z
        have hdq7 := hdq6.mono tk7
        have hrs7 : H7 rs = some (.lst xs4) := lx7.ex _ _ ner hrs6 fun _ z => by cases z
        have hxs7 := hxs6.mono tk7
        have hpl7 : (Sn.2.map encR).length ≤ 2000 := by rw [List.length_map]; omega
        -- new = [..]
        refine s_setLc (T := T) c 5 g7 (enc := encR) (L := someM line y) (ei_lst (ev_v 2 g7 rfl) hrs7 hxs7) 4 (fun r => if (decide (lk (restM line Sn.1 y) r = 0) && !decide (r ∈ Sn.2)) = true then some (encR r) else none) (fun r H8 σ8 Xb hr8 l8 hb g8 => ?_) (by omega) (blkOk_by (N := nMp) (sc := defScope (clsM 34 3)) (by decide +kernel)) (fun rn xn σ8 H8 nrn l8 hrn hxn g8 => ?_) (sw_true rfl rfl rfl (by decide +kernel))
        · obtain ⟨s0, H0, C', cl, fp, rfl⟩ := hb
          refine ⟨et_one (EB.t (EB.to (eb_and (k := decide (lk (restM line Sn.1 y) r = 0)) (k' := !decide (r ∈ Sn.2)) ?_ fun _ => ?_) ?_)), fun d hd => ?_⟩
          · exact eb_eqI (ev_pget (ef := PyData.int) (b := lk (restM line Sn.1 y) r) remK_inj hu (mk_fld W.cl W.nR (ma7.le l8) (fun fs h => h.r) (ev_v 0 g8 rfl)) (dkR.le l8) (ev_v 4 g8 rfl) (lk_some (okR.1 r (hsl2 r hr8)))) ev_int
          · refine EB.to (eb_notInL (room65 hr) (ev_v 4 g8 rfl) (mk_fld W.cl W.nQ (ma7.le l8) (fun fs h => h.q) (ev_v 0 g8 rfl)) (l8.lst hq7) (hdq7.mono l8.tk) (shapedR r) (shapedRs _)) ?_
            rw [List.any_map]
            congr 1
            rw [Bool.eq_iff_iff, List.any_eq_true, decide_eq_true_eq]
            simp [Function.comp, eqv_encR]
          · split <;> rename_i hh <;> simp_all
          · split at hd
            · cases hd
              exact ev_v 4 g8 rfl
            · cases hd
        rw [filterMap_if (fun r => decide (lk (restM line Sn.1 y) r = 0) && !decide (r ∈ Sn.2))] at hxn
        have hxn' : DtL H8 xn ((newM line Sn y).map encR) := hxn
        have g8' : Sg H8 σ8 [.v (.ref a), .d (encT y), .v (.ref rs), .d (.int (leastM line Sn.1 y)), .x, .v (.ref rn)] := g8.forget 4
        have ma8 := ma7.le l8
        have hq8 := l8.lst hq7
        have hdq8 := hdq7.mono l8.tk
        have lx8 : LeX T (W3 M) H2 H8 := (lx6.trans lx67).trans (.of l8)
        refine s_if0 (T := T) (eb_not (k := (someM line y).any fun r => decide (r ∈ Sn.2)) (EB.to (eb_any (bs := (someM line y).map fun r => decide (r ∈ Sn.2)) c ?_ M0.any) List.any_map)) (fun h H9 l9 => ?_) fun h H9 l9 => s_nil ⟨j0, lx8.trans (.of l9), (((((g8'.mono l9.tk).forget 1).forget 2).forget 3).forget 4).forget 5, Wt6, ?_, hw6⟩
        · refine EvL.to (ev_lc c (enc := encR) (L := someM line y) (ei_lst (ev_v 2 g8' rfl) (l8.lst hrs7) (hxs7.mono l8.tk)) 4 g8' (fun r => some (.bool (decide (r ∈ Sn.2)))) (fun r H9 σ9 Xb hr9 l9 hb g9 => ?_) (by omega) (blkOk_by (N := nMp) (sc := defScope (clsM 34 3)) (own := [("remedy", 4)]) (by decide +kernel))) (by rw [filterMap_some, List.map_map]; rfl)
          obtain ⟨s0, H0, C', cl, fp, rfl⟩ := hb
          refine ⟨et_nil, fun d hd => ?_⟩
          cases hd
          refine EB.v (EB.to (eb_inL (room65 hr) (ev_v 4 g9 rfl) (mk_fld W.cl W.nQ (ma8.le l9) (fun fs h => h.q) (ev_v 0 g9 rfl)) (l9.lst hq8) (hdq8.mono l9.tk) (shapedR r) (shapedRs _)) ?_)
          rw [List.any_map, Bool.eq_iff_iff, List.any_eq_true, decide_eq_true_eq]
          simp [Function.comp, eqv_encR]
        · have hany : ((someM line y).any fun r => decide (r ∈ Sn.2)) = false := by simpa using h
          have hnn := newM_ne nd iR hsne hany
          have hlast : (newM line Sn y).map encR = ((newM line Sn y).dropLast).map encR ++ [encR (((newM line Sn y).getLast?).getD (false, 0, 0))] := by
            have e1 := List.dropLast_concat_getLast hnn
            have e2 : ((newM line Sn y).getLast?).getD (false, 0, 0) = (newM line Sn y).getLast hnn := by rw [List.getLast?_eq_some_getLast hnn]; rfl
            rw [e2]
            have e3 := congrArg (List.map encR) e1
            rw [List.map_append] at e3
            exact e3.symm
          have g9 := g8'.mono l9.tk
          have hxq := hdq8.len
          rw [List.length_map] at hxq
          refine s_append (T := T) (mk_fld W.cl W.nQ (ma8.le l9) (fun fs h => h.q) (ev_v 0 g9 rfl)) (l9.lst hq8) (by omega) (ev_ixL (ds := ((newM line Sn y).dropLast).map encR ++ [encR (((newM line Sn y).getLast?).getD (false, 0, 0))]) (ev_v 5 g9 rfl) (l9.lst hrn) (by rw [← hlast]; exact hxn'.mono l9.tk) (ev_neg ev_int) (atI_last _ _)) fun v10 H10 l10 hv10 => s_nil (s_nil ?_)
          obtain ⟨_, e10, hv10⟩ := hv10
          cases e10
          have l910 := l9.trans l10
          have hq10 := l910.lst hq8
          have tku := tk_lst (o := .lst (xq ++ [v10])) hq10
          have lxu : LeX T (W3 M) H8 (upd H10 M.dq (.lst (xq ++ [v10]))) := LeX.updL (.of l910) (.inr (.inr rfl)) hq10
          refine ⟨j0, lx8.trans lxu, ((((((g8'.mono l910.tk).mono tku).forget 1).forget 2).forget 3).forget 4).forget 5, Wt6, ⟨?_, ?_, xq ++ [v10], upd_same, ?_⟩, hw6⟩
          · obtain ⟨kv, hk, hr10⟩ := (dkR.le l8).le l910
            exact ⟨kv, by rw [upd_ne (fun e => by rw [e, hq10] at hk; cases hk)]; exact hk, hr10.mono tku⟩
          · obtain ⟨kv, hk, hr10⟩ := (dw7.le l8).le l910
            exact ⟨kv, by rw [upd_ne (fun e => by rw [e, hq10] at hk; cases hk)]; exact hk, hr10.mono tku⟩
          · have e : (payStep line Sn y).2 = Sn.2 ++ [((newM line Sn y).getLast?).getD (false, 0, 0)] := by
              unfold payStep
              simp only [hany, Bool.false_eq_true, if_false]
            rw [e, List.map_append]
            exact ((hdq8.mono l910.tk).mono tku).append (.cons (hv10.mono tku) .nil)
        · have hany : ((someM line y).any fun r => decide (r ∈ Sn.2)) = true := by simpa using h
          refine ⟨(dkR.le l8).le l9, (dw7.le l8).le l9, xq, l9.lst hq8, ?_⟩
          have e : (payStep line Sn y).2 = Sn.2 := by
            unfold payStep
            simp only [hany, if_true]
          rw [e]
          exact hdq8.mono l9.tk
    have hner : rs ≠ M.dr := fun e => by
      obtain ⟨kv, hk, _⟩ := jd4.1
      rw [← e, hrs] at hk
      cases hk
    have hneq : rs ≠ M.dq := fun e => by
      obtain ⟨xq, hq, _⟩ := jd.2.2
      rw [e, hq] at nrs
      cases nrs
    have hnew : rs ≠ M.dw := fun e => by
      obtain ⟨kv, hk, _⟩ := jd4.2.1
      rw [← e, hrs] at hk
      cases hk
    -- if least > 0: self.weight_of[pair] = least
    refine s_if0 (T := T) (eb_gt (ev_v 3 g5' rfl) ev_int) (fun h H6 l6 => ?_) fun h H6 l6 => ?_
    · have g6 := g5'.mono l6.tk
      have jd6 := jd5.le l6
      refine s_pput (T := T) (b := leastM line Sn.1 y) (a := y) triK_inj' hu (ev_v 3 g6 rfl) (mk_fld W.cl W.nW (ma5.le l6) (fun fs h => h.w) (ev_v 0 g6 rfl)) jd6.2.1 (ev_v 1 g6 rfl) (by omega) fun H7 lx7 tk7 dk7 => s_nil ?_
      have lx67 : LeX T (W3 M) H6 H7 := lx7.imp fun b e => .inr (.inl e)
      refine fin H7 (putA Wt y (leastM line Sn.1 y)) ((lx5.trans (.of l6)).trans lx67) (l6.tk.trans tk7) ((ma5.le l6).lex jd6 lx67) ⟨?_, dk7, ?_⟩ (lx7.ex _ _ hnew (l6.lst hrs5) fun _ z => by cases z) (Nat.le_trans (putA_le _ _ _) (by omega)) hner hneq
      · obtain ⟨kv, hk, hr7⟩ := jd6.1
        exact ⟨kv, lx7.ex _ _ ne.rw hk (fun _ z => by cases z), hr7.mono tk7⟩
      · obtain ⟨xq, hq, hd⟩ := jd6.2.2
        refine ⟨xq, lx7.ex _ _ (fun e => ?_) hq (fun _ z => by cases z), hd.mono tk7⟩
        obtain ⟨kv, hk, _⟩ := jd6.2.1
        rw [show M.dq = M.dw from e, hk] at hq
        cases hq
    · exact fin H6 Wt (lx5.trans (.of l6)) l6.tk (ma5.le l6) (jd5.le l6) (l6.lst hrs5) (by omega) hner hneq
  · obtain ⟨j0, j1, j2, Wt, jd, jw⟩ := j
    rw [List.take_length] at jd
    exact s_nil (q H' Wt ((LeX.of j0).trans j1) jd)
end
end RF
set_option Elab.async false
set_option linter.all false
set_option maxRecDepth 100000
set_option maxHeartbeats 4000000
/-! class Market: bought -/
namespace RF
open PySem PySem.Spec L2 LamX NdefX
open PyProof.Rows hiding St
open PySem.W (AllAlike Sortable dataLe alike alikeAll)

def buyStep (pairs : List Tri) (found : List Rem) (r : Rem) : List Rem := if coversM (found.filter fun x => !decide (x = r)) pairs = true then found.filter fun x => !decide (x = r) else found
def boughtM (paid : List Rem) (pairs : List Tri) : List Rem := paid.reverse.foldl (buyStep pairs) paid
theorem buyStep_sub {pairs : List Tri} {found : List Rem} {r x : Rem} (h : x ∈ buyStep pairs found r) : x ∈ found := by
  unfold buyStep at h
  split at h
  · exact (List.mem_filter.mp h).1
  · exact h
theorem buyStep_le {pairs : List Tri} {found : List Rem} {r : Rem} : (buyStep pairs found r).length ≤ found.length := by
  unfold buyStep
  split
  · exact List.length_filter_le _ _
  · exact Nat.le_refl _
theorem buys_le {pairs : List Tri} : ∀ (rs found : List Rem), (rs.foldl (buyStep pairs) found).length ≤ found.length ∧ ∀ x ∈ rs.foldl (buyStep pairs) found, x ∈ found
  | [], found => ⟨Nat.le_refl _, fun x hx => hx⟩
  | r :: rs, found => by
    obtain ⟨h1, h2⟩ := buys_le rs (buyStep pairs found r)
    rw [List.foldl_cons]
    exact ⟨Nat.le_trans h1 buyStep_le, fun x hx => buyStep_sub (h2 x hx)⟩
section
variable {P : Program} {w : World} {K : PySem.W.Frag} {mg : Str → Option Value} {base : Heap} {T : List (Addr × Str)} {f : Addr} {fd : FuncData} {k : Nat} {C : Addr}
theorem alike_encR (L : List Rem) : AllAlike (L.map encR) := PySem.W.AllAlike.of fun b b' => by simp [encR, alike, alikeAll]
theorem sortable_encR (L : List Rem) : Sortable (L.map encR) := PySem.W.Sortable.tuples (enc := encR) fun b => ⟨_, _, rfl⟩
/-- cuts_all(l, t) -/
theorem ev_caT {X : Cx} {σ : St} {H : Hp} {a b : Expr} {pos p : Pos} {q : Addr} {xs : List V} {rs : List Rem} {ys : List Tri} (C : Cal X.prog X.w X.K X.mg X.base k "cuts_all" ["remedies", "pairs"] (spCA T)) (hr : Room k X.A) (ha : Ev T X a σ H (.v (.ref q))) (hq : H q = some (.lst xs)) (hx : DtL H xs (rs.map encR)) (hl : rs.length ≤ 10000)
    (hb : EvD T X b σ H (.tuple (ys.map encT))) (hyl : ys.length ≤ 10000) (hg : Gl X "cuts_all" := by rfl) (h1 : starEach [a, b] X.env = (false, eval a X.env) :: starEach [b] X.env := by rfl) (h2 : starEach [b] X.env = (false, eval b X.env) :: starEach [] X.env := by rfl) (hpl : (backTo pos (starEach [b] X.env)).any (·.1) = false := by rfl) :
    EvD T X (.Call (.Name "cuts_all" p) [a, b] [] pos) σ H (.bool (coversM rs ys)) := fun H1 l Q q' => by
  obtain ⟨f, fd, F, hm, hk, hbi⟩ := C.ex
  refine w_pe (pe_call F hr hg hm hk hbi .nil pass0 (pa_cons pe_w (pa_cons pe_w pa_nil h2) h1) (by decide) h1 hpl) (ha H1 l _ fun v H2 l2 hv => hb H2 (l.trans l2) _ fun u H3 l3 hu => ?_)
  have e : some v = some (V.ref q) := hv
  cases e
  obtain ⟨_, e, hu⟩ := hu
  cases e
  have lt := (l.trans l2).trans l3
  exact ⟨q, xs, rs, u, ys, rfl, lt.lst hq, hx.mono lt.tk, .inr hu, hl, hyl, fun v H4 l4 hv4 => q' v H4 ((l2.trans l3).trans l4) ⟨_, rfl, hv4⟩⟩
def spBuy (T : List (Addr × Str)) (C : Addr) : Sp := fun vs H Q _ => ∃ (a : Addr) (M : MkA) (paid : List Rem) (pairs : List Tri) (xq : List V), vs = [.ref a] ∧ MktAt C H a M ∧ H M.dq = some (.lst xq) ∧ DtL H xq (paid.map encR) ∧ paid.length ≤ 5000 ∧ Dt H M.vp (.tuple (pairs.map encT)) ∧ pairs.length ≤ 5000 ∧
  ∀ v H', Le T H H' → Dt H' v (.tuple (((boughtM paid pairs).mergeSort (dataLe false encR)).map encR)) → Q v H'
abbrev nMb : List Str := ["self", "found", "remedy", "others", "other"]
theorem ok_bought (M0 : Nm mg) (W : MktT K C) (F : Fun K "bought" "Market.bought" (clsM 34 4) f fd) (C1 : Cal P w K mg base k "cuts_all" ["remedies", "pairs"] (spCA T)) : FnOk P w K mg base CX0 (k + 1) f fd ["self"] (spBuy T C) := by
  have S : FnScope nMb ["self"] (defScope (clsM 34 4)) := ⟨rfl, rfl, rfl, by decide +kernel, rfl, by decide +kernel, by decide +kernel⟩
  refine fun_okW F S (fun vs H Q E h => ?_) fun X cdv A outer s H vs Q E e c hr h => ?_
  · obtain ⟨a, M, paid, pairs, xq, rfl, _⟩ := h
    rfl
  subst e
  obtain ⟨a, M, paid, pairs, xq, rfl, ma, hq, hd, hl, hp, hpl, q⟩ := h
  have g : Sg H (L2.start nMb [.ref a]) [.v (.ref a), .x, .x, .x, .x] := .cons rfl (.cons True.intro (.cons True.intro (.cons True.intro (.cons True.intro .nil))))
  refine s_setN (T := T) c 1 g (ev_listL (mk_fld W.cl W.nQ ma (fun fs h => h.q) (ev_v 0 g rfl)) hq hd M0.list) fun rf xf σ1 H1 nf l1 hf hdf g1 => ?_
  have g1' : Sg H1 σ1 [.v (.ref a), .v (.ref rf), .x, .x, .x] := g1
  have erev : (paid.map encR).reverse = paid.reverse.map encR := by rw [List.map_reverse]
  refine s_for (T := T) c (enc := encR) (L := paid.reverse) (ei_new (EvL.to (ev_revL (mk_fld W.cl W.nQ (ma.le l1) (fun fs h => h.q) (ev_v 0 g1' rfl)) (l1.lst hq) (hd.mono l1.tk)) erev))
    (fun Hs n σ' H' => Le T H1 Hs ∧ Le T Hs H' ∧ ∃ rf ys, Sg H' σ' [.v (.ref a), .v (.ref rf), .x, .x, .x] ∧ H' rf = some (.lst ys) ∧ DtL H' ys (((paid.reverse.take n).foldl (buyStep pairs) paid).map encR))
    (fun H2 l => ⟨l, .refl _, rf, xf, g1'.mono l.tk, l.lst hf, by rw [List.take_zero]; exact hdf.mono l.tk⟩) (fun H2 n σ' H' l j => .of j.2.1)
    (fun H2 n σ' H' H3 j l => ⟨j.1, j.2.1.trans l, let ⟨rf, ys, a1, a2, a3⟩ := j.2.2; ⟨rf, ys, a1.mono l.tk, l.lst a2, a3.mono l.tk⟩⟩)
    (fun H2 n r v σ' H' l hr' j dv => ?_) fun H2 σ' H' l j => ?_
  · obtain ⟨j0, j1, rf, ys, j2, a1, a2⟩ := j
    have tk1 : (paid.reverse.take (n + 1)).foldl (buyStep pairs) paid = buyStep pairs ((paid.reverse.take n).foldl (buyStep pairs) paid) r := by
      rw [List.take_add_one, hr', List.foldl_append]
      rfl
    have hfl := (buys_le (pairs := pairs) (paid.reverse.take n) paid).1
    rw [tk1]
    generalize hFn : (paid.reverse.take n).foldl (buyStep pairs) paid = Fn at a2 hfl ⊢
    have l01 := l1.trans (j0.trans j1)
    refine g_name (s := .d (encR r)) c 2 j2 ⟨_, rfl, dv⟩ fun σ3 g3 => ?_
    have g3' : Sg H' σ3 [.v (.ref a), .v (.ref rf), .d (encR r), .x, .x] := g3
    refine s_setLc (T := T) c 3 g3' (enc := encR) (L := Fn) (ei_lst (ev_v 1 g3' rfl) a1 a2) 4 (fun x => if (!decide (x = r)) = true then some (encR x) else none) (fun x H5 σ5 Xb hx l5 hb g5 => ?_) (by omega) (blkOk_by (N := nMb) (sc := defScope (clsM 34 4)) (by decide +kernel)) (fun ro xo σ5 H5 nro l5 hro hxo g5 => ?_) (sw_true rfl rfl rfl (by decide +kernel))
    · obtain ⟨s0, H0, C', cl, fp, rfl⟩ := hb
      refine ⟨et_one (EB.t (EB.to (eb_ne (by have := hr.un; show _ < _; exact Nat.lt_trans (Nat.add_lt_add_left (by decide : 64 < 65) _) (room65 hr)) (ev_v 4 g5 rfl) (ev_v 2 g5 rfl) (shapedR x) (shapedR r)) ?_)), fun d hd => ?_⟩
      · rw [eqv_encR]
        split <;> rename_i hh <;> simp_all
      · split at hd
        · cases hd
          exact ev_v 4 g5 rfl
        · cases hd
    rw [filterMap_if (fun x => !decide (x = r))] at hxo
    have g5' : Sg H5 σ5 [.v (.ref a), .v (.ref rf), .d (encR r), .v (.ref ro), .x] := g5
    have l05 := l01.trans l5
    have hol : (Fn.filter fun x => !decide (x = r)).length ≤ 5000 := Nat.le_trans (List.length_filter_le _ _) (by omega)
    refine s_if0 (T := T) (eb_val (ev_caT C1 hr (ev_v 3 g5' rfl) hro hxo (by omega) (EvD.ofV (mk_fld W.cl W.nS (ma.le l05) (fun fs h => h.s) (ev_v 0 g5' rfl)) (hp.mono l05.tk)) (by omega))) (fun h H6 l6 => ?_) fun h H6 l6 => s_nil ⟨j0, j1.trans (l5.trans l6), rf, ys, ((g5'.mono l6.tk).forget 2).forget 3, (l5.trans l6).lst a1, ?_⟩
    · refine s_set (T := T) c 1 (g5'.mono l6.tk) (s := .v (.ref ro)) (ev_v 3 (g5'.mono l6.tk) rfl) fun v7 σ7 H7 l7 _ g7 => s_nil (s_nil ⟨j0, j1.trans (l5.trans (l6.trans l7)), ro, xo, ((g7.forget 2).forget 3), (l6.trans l7).lst hro, ?_⟩)
      unfold buyStep
      rw [if_pos h]
      exact hxo.mono (l6.trans l7).tk
    · unfold buyStep
      rw [if_neg (by rw [h]; exact Bool.false_ne_true)]
      exact a2.mono (l5.trans l6).tk
  · obtain ⟨j0, j1, rf, ys, j2, a1, a2⟩ := j
    rw [List.take_length] at a2
    have hfl := (buys_le (pairs := pairs) paid.reverse paid).1
    refine s_retD (T := T) (ev_tupN (EvL.to (ev_sorted (T := T) (enc := encR) (bs := boughtM paid pairs) (ec_lst (ev_v 1 j2 rfl) a1 a2) (alike_encR _) (sortable_encR _) ?_ hr (fun y _ => by simp [encR, PyData.depth, PyData.depthAll]) M0.sorted) rfl) M0.tuple) fun v H9 l9 hv => q v H9 ((l1.trans (j0.trans j1)).trans l9) hv
    unfold boughtM
    omega
end
end RF
set_option Elab.async false
set_option linter.all false
set_option maxRecDepth 100000
set_option maxHeartbeats 8000000
/-! class Market: __init__; cheapest -/
namespace RF
open PySem PySem.Spec L2 LamX NdefX
open PyProof.Rows hiding St
open PySem.W (AllAlike Sortable dataLe alike alikeAll)

section
variable {T : List (Addr × Str)} {X : Cx} {e a o : Expr} {σ : St} {H : Hp} {pos pos' p : Pos} {q : Addr} {rest : List Stmt} {D : Ends}
/-- o.f = e, whatever e is -/
theorem s_fldG {Φ : V → Hp → Prop} {C dx : Addr} {fs : List (Str × V)} {f : Str} (hc : Cls X.K C) (hn : NoAttr X.K C f) (he : wE X e σ H fun v H1 => Le T H H1 ∧ Φ v H1) (ho : Ev T X o σ H (.v (.ref q))) (hq : H q = some (.ins C dx fs)) (hl : fs.length < 100)
    (kk : ∀ v H1 H', Le T H H1 → Φ v H1 → Le T H1 H' → wSs X rest D σ (upd H' q (.ins C dx (putF f v fs)))) (hs : swapsWith e (some (.Attribute o f pos')) pos.line X.env = pure false := by rfl) :
    wSs X (.Assign [.Attribute o f pos'] e pos :: rest) D σ H := by
  refine s_cons (w_ps (ps_fld pe_w pe_w hs) (he.imp fun v H1 ⟨l1, h1⟩ => ?_))
  refine ho H1 l1 _ fun x H2 l2 h2 => ?_
  have e : some x = some (V.ref q) := h2
  cases e
  exact ⟨q, C, dx, fs, rfl, (l1.trans l2).ins hq, hc, hn, by omega, kk v H1 H2 l1 h1 l2⟩
theorem w_dictPl {rs : List Rem} {Q : VK} {kR : Nat} (hr : Room kR X.A) {H1 : Hp} (ha : ∀ Q' : VK, (∀ v H2, Le T H1 H2 → PlOk H2 v rs → Q' v H2) → wE X a σ H1 Q') (nd : rs.Nodup) (hl : rs.length ≤ 10000)
    (q : ∀ d H2, H1 d = none → Le T H1 H2 → H2 d = some (.dT (rs.map fun r => (remK r, V.int 1))) → DkP H2 d remK PyData.int (rs.map fun r => (r, (1 : Int))) → Q (.ref d) H2) (hm : X.mg "dict" = none) (hg : Gl X "dict" := by rfl) (hst : starEach [a] X.env = (false, eval a X.env) :: starEach [] X.env := by rfl) (hpl : (backTo pos (starEach [] X.env)).any (·.1) = false := by rfl) :
    wE X (.Call (.Name "dict" p) [a] [] pos) σ H1 Q := by
  refine w_pe (pe_callTy (call_dictPl hr.hd (by have := hr.un; omega)) hg hm PyProof.Rows.boot_dict (pa_cons pe_w pa_nil hst) (by decide) (by decide) hst hpl) (ha _ fun v H2 l2 hv => ?_)
  exact ⟨v, rs, rfl, hv, nd, hl, fun d hd dk => q d _ (l2.fr d hd) (l2.trans (.new hd)) upd_same dk⟩
end
def ptD (x : Rem) : PyData := .tuple [.int (x.2.1 : Int), .int (x.2.2 : Int), .str (wordOf x.1)]
def lineM (rs : List Rem) : List Rem := rs.mergeSort (dataLe false ptD)
def mkPaid (rs : List Rem) (pairs : List Tri) : List Rem := (payM (lineM rs) (rs.map fun r => (r, (1 : Int)), []) pairs).2
section
variable {P : Program} {w : World} {K : PySem.W.Frag} {mg : Str → Option Value} {base : Heap} {T : List (Addr × Str)} {f c0 : Addr} {fd : FuncData} {k : Nat} {C : Addr}
theorem alike_ptD (L : List Rem) : AllAlike (L.map ptD) := PySem.W.AllAlike.of fun b b' => by simp [ptD, alike, alikeAll]
theorem sortable_ptD (L : List Rem) : Sortable (L.map ptD) := PySem.W.Sortable.tuples (enc := ptD) fun b => ⟨_, _, rfl⟩
theorem look_ones (rs : List Rem) (r : Rem) : look (rs.map fun r => (r, (1 : Int))) r = if r ∈ rs then some 1 else none := by
  induction rs with
  | nil => simp [look_nil]
  | cons x rs ih =>
    rw [List.map_cons, look_cons, ih]
    by_cases h : x = r
    · simp [h]
    · have h2 : ¬ r = x := fun z => h z.symm
      simp [h, h2]
def spMkI (T : List (Addr × Str)) (C : Addr) : Sp := fun vs H Q _ => ∃ (a dx : Addr) (p : Prog) (wd : Str) (room : Int) (rs : List Rem) (v1 v2 v3 : V), vs = [.ref a, v1, v2, v3] ∧ Tabs T H ∧ H a = some (.ins C dx []) ∧ Dt H v1 (encProg p) ∧ Dt H v2 (encBuf wd room) ∧ PlOk H v3 rs ∧ rs.Nodup ∧ rs.length ≤ 1000 ∧ ProgOk p ∧
  (∀ y ∈ liveM p wd room, rs.filter (fun x => cutsM x y) ≠ []) ∧
  ∀ M H' xq dx' fs, LeX T (At a) H H' → H' a = some (.ins C dx' fs) → MkFs fs M → fs.lookup ("is_possible" : Str) = some (.bl true) → DkP H' M.dp remK PyData.int (rs.map fun r => (r, (1 : Int))) → Dt H' M.vp (.tuple ((liveM p wd room).map encT)) → H' M.dq = some (.lst xq) → DtL H' xq ((mkPaid rs (liveM p wd room)).map encR) → Q .non H'
abbrev nMi : List Str := ["self", "program", "buffers", "price_list", "pair"]
theorem ok_mkt_init (M0 : Nm mg) (W : MktT K C) (F : Fun K "__init__" "Market.__init__" (clsM 34 0) f fd) (hc0 : fd.code = .ref c0) (LD : LamD T base mg c0 ("Market.__init__" ++ ".<locals>." ++ "<lambda>")) (C1 : Cal P w K mg base k "point_of" ["remedy"] (spR T 1 rPoint)) (C2 : Cal P w K mg base (k + 3) "live_pairs" ["program", "buffers"] (spR T 2 rLive))
    (M1 : MetC P w K mg base (k + 3) C "cutters" ["self", "pair"] (spCut T C)) (M2 : MetC P w K mg base (k + 3) C "pay" ["self"] (spPay T C)) : FnOk P w K mg base CX0 (k + 4) f fd ["self", "program", "buffers", "price_list"] (spMkI T C) := by
  have S : FnScope nMi ["self", "program", "buffers", "price_list"] (defScope (clsM 34 0)) := ⟨rfl, rfl, rfl, by decide +kernel, rfl, by decide +kernel, by decide +kernel⟩
  refine fun_okC F hc0 S (fun vs H Q E h => ?_) fun X A outer s H vs Q E e c hr h => ?_
  · obtain ⟨a, dx, p, wd, room, rs, v1, v2, v3, rfl, _⟩ := h
    rfl
  subst e
  obtain ⟨a, dx, p, wd, room, rs, v1, v2, v3, rfl, hT, ha, h1, h2, h3, nd, hrl, hp, hcut, q⟩ := h
  have hu := room1 hr
  have g : Sg H (L2.start nMi [.ref a, v1, v2, v3]) [.v (.ref a), .d (encProg p), .d (encBuf wd room), .v v3, .x] := .cons rfl (.cons ⟨_, rfl, h1⟩ (.cons ⟨_, rfl, h2⟩ (.cons rfl (.cons True.intro .nil))))
  generalize hσ0 : L2.start nMi [V.ref a, v1, v2, v3] = σ0 at g ⊢
  obtain ⟨Pt, tb, hm, hu2⟩ := LD.ex
  have Lm : LamT T (cxOf CX0 P w K mg base nMi "Market.__init__" (defScope (clsM 34 0)) f (.ref c0) A outer s H E).nox := ⟨c0, Pt, tb, rfl, hm, hu2⟩
  have pl : ∀ {Hx : Hp} {lx : Le T H Hx ∨ True}, Sg Hx σ0 [.v (.ref a), .d (encProg p), .d (encBuf wd room), .v v3, .x] → True := fun _ => True.intro
  -- self.price_of = dict(price_list)
  refine s_fldG (T := T) (Φ := fun v H1 => ∃ d, v = .ref d ∧ H d = none ∧ H1 d = some (.dT (rs.map fun r => (remK r, V.int 1))) ∧ DkP H1 d remK PyData.int (rs.map fun r => (r, (1 : Int)))) W.cl W.nP ?_ (ev_v 0 g rfl) ha (by show 0 < 100; decide) fun u1 Ha Hb la hΦ lb => ?_
  · refine w_dictPl (T := T) (rs := rs) hr (fun Q' q' => Ev.app (T := T) (ev_v 3 g rfl) (.refl _) fun v H2 l2 hv => ?_) nd (by omega) (fun d H2 hd l2 hd2 dk => ⟨l2, d, rfl, hd, hd2, dk⟩) M0.dict
    have e : some v = some v3 := hv
    cases e
    exact q' _ H2 l2 (h3.le l2)
  obtain ⟨dp, rfl, ndp, gp, kp⟩ := hΦ
  have hab : H a = some (.ins C dx []) := ha
  have ha1 := (la.trans lb).ins ha
  have t1 : Tk H (upd Hb a (.ins C dx (putF "price_of" (.ref dp) []))) := (la.trans lb).tk.trans (tk_ins ha1)
  have lx1 : LeX T (At a) H (upd Hb a (.ins C dx (putF "price_of" (.ref dp) []))) := LeX.updI (.of (la.trans lb)) rfl ha1
  have nea : ∀ {Hx : Hp} {d : Addr} {kv : List (List Key × V)} {fs : List (Str × V)} {dx : Addr}, Hx a = some (.ins C dx fs) → Hx d = some (.dT kv) → d ≠ a := fun h1 h2 e => by rw [e, h1] at h2; cases h2
  have neal : ∀ {Hx : Hp} {d : Addr} {xs : List V} {fs : List (Str × V)} {dx : Addr}, Hx a = some (.ins C dx fs) → Hx d = some (.lst xs) → d ≠ a := fun h1 h2 e => by rw [e, h1] at h2; cases h2
  have gp1 : upd Hb a (.ins C dx (putF "price_of" (.ref dp) [])) dp = some (.dT (rs.map fun r => (remK r, V.int 1))) := by rw [upd_ne (nea ha1 (lb.dct gp))]; exact lb.dct gp
  have kp1 : DkP (upd Hb a (.ins C dx (putF "price_of" (.ref dp) []))) dp remK PyData.int (rs.map fun r => (r, (1 : Int))) := by
    obtain ⟨kv, h1, h2⟩ := kp.le lb
    exact ⟨kv, by rw [upd_ne (nea ha1 h1)]; exact h1, h2.mono (tk_ins ha1)⟩
  have h31 : PlOk (upd Hb a (.ins C dx (putF "price_of" (.ref dp) []))) v3 rs := by
    obtain ⟨b, xs, e, h1, h2⟩ := h3.le (la.trans lb)
    refine ⟨b, xs, e, ?_, h2.mono (tk_ins ha1)⟩
    rw [upd_ne (fun z => by rw [z, ha1] at h1; unfold PlT at h1; cases h1)]
    exact h1
  have hT1 : Tabs T (upd Hb a (.ins C dx (putF "price_of" (.ref dp) []))) := tabs_ins ha1 ((la.trans lb).tb hT)
  have ha2 : upd Hb a (.ins C dx (putF "price_of" (.ref dp) [])) a = some (.ins C dx (putF "price_of" (.ref dp) [])) := upd_same
  generalize hH1 : upd Hb a (.ins C dx (putF "price_of" (.ref dp) [])) = H1 at t1 lx1 gp1 kp1 h31 hT1 ha2 ⊢
  -- self.line = sorted(self.price_of, key=..)
  have g1 := g.mono t1
  refine s_fldN (T := T) W.cl W.nL (ds := (lineM rs).map encR) ?_ (ev_v 0 g1 rfl) ha2 (by show 1 < 100; decide) fun dl xl Hc ndl lc gl dl2 => ?_
  · refine EvL.to (ev_sortedKey (T := T) (enc := encR) (key := ptD) (bs := rs) (fr := []) (js := []) (N := ["remedy"]) (x1 := "remedy") Lm hT1 (EvC.to (ec_dict (ev_fld W.cl W.nP (ev_v 0 g1 rfl) ha2 (by rfl)) gp1) (by rw [List.map_map, List.map_map]; rfl)) (alike_ptD _) (sortable_ptD _) (by omega) (fun y _ => by simp [ptD, PyData.depth, PyData.depthAll]) hr (nscope_by (by decide +kernel)) rfl (ndef_free (fr := []) (by show ndefB (defScope (clsM 34 0)) _ _ = true; decide +kernel)) (ndef_fr (sc := defScope (clsM 34 0)) (by decide +kernel)) (fun y vy H' Xl hy il l' dy' => ?_) M0.sorted) rfl
    obtain ⟨c', fl, Al, sl, Hl, rfl, hrl⟩ := il
    have gl : Sg H' (startF ["remedy"] [vy] (([] : List Nat).map (NdefX.slotAt σ0))) [.d (encR y)] := .cons ⟨_, rfl, dy'⟩ .nil
    exact EvD.to (ev_callR (ds := [encR y]) C1 hrl (ea_1 (ev_v 0 gl rfl)) ⟨y, rfl, rfl⟩) rfl
  have hac := lc.ins ha2
  have t2 := (t1.trans lc.tk).trans (tk_ins (u := .ins C dx (putF "line" (.ref dl) (putF "price_of" (.ref dp) []))) hac)
  have lx2 : LeX T (At a) H (upd Hc a (.ins C dx (putF "line" (.ref dl) (putF "price_of" (.ref dp) [])))) := LeX.updI (lx1.trans (.of lc)) rfl hac
  have tkc := tk_ins (u := .ins C dx (putF "line" (.ref dl) (putF "price_of" (.ref dp) []))) hac
  have kp2 : DkP (upd Hc a (.ins C dx (putF "line" (.ref dl) (putF "price_of" (.ref dp) [])))) dp remK PyData.int (rs.map fun r => (r, (1 : Int))) := by
    obtain ⟨kv, h1, h2⟩ := kp1.le lc
    exact ⟨kv, by rw [upd_ne (nea hac h1)]; exact h1, h2.mono tkc⟩
  have h32 : PlOk (upd Hc a (.ins C dx (putF "line" (.ref dl) (putF "price_of" (.ref dp) [])))) v3 rs := by
    obtain ⟨b, xs, e, h1, h2⟩ := h31.le lc
    refine ⟨b, xs, e, ?_, h2.mono tkc⟩
    rw [upd_ne (fun z => by rw [z, hac] at h1; unfold PlT at h1; cases h1)]
    exact h1
  have gl2 : upd Hc a (.ins C dx (putF "line" (.ref dl) (putF "price_of" (.ref dp) []))) dl = some (.lst xl) := by rw [upd_ne (neal hac gl)]; exact gl
  have dl3 := dl2.mono tkc
  have hT2 : Tabs T (upd Hc a (.ins C dx (putF "line" (.ref dl) (putF "price_of" (.ref dp) [])))) := tabs_ins hac (lc.tb hT1)
  have ha3 : upd Hc a (.ins C dx (putF "line" (.ref dl) (putF "price_of" (.ref dp) []))) a = some (.ins C dx (putF "line" (.ref dl) (putF "price_of" (.ref dp) []))) := upd_same
  generalize hH2 : upd Hc a (.ins C dx (putF "line" (.ref dl) (putF "price_of" (.ref dp) []))) = H2 at t2 lx2 kp2 h32 gl2 dl3 hT2 ha3 ⊢
  -- self.rest = dict(price_list)
  have g2 := g.mono t2
  refine s_fldG (T := T) (Φ := fun v H1 => ∃ d, v = .ref d ∧ H2 d = none ∧ H1 d = some (.dT (rs.map fun r => (remK r, V.int 1))) ∧ DkP H1 d remK PyData.int (rs.map fun r => (r, (1 : Int)))) W.cl W.nR ?_ (ev_v 0 g2 rfl) ha3 (by show 2 < 100; decide) fun u3 Hd He ld hΦ3 le => ?_
  · refine w_dictPl (T := T) (rs := rs) hr (fun Q' q' => Ev.app (T := T) (ev_v 3 g2 rfl) (.refl _) fun v H2 l2 hv => ?_) nd (by omega) (fun d H2 hd l2 hd2 dk => ⟨l2, d, rfl, hd, hd2, dk⟩) M0.dict
    have e : some v = some v3 := hv
    cases e
    exact q' _ H2 l2 (h32.le l2)
  obtain ⟨dr, rfl, ndr, gr, kr⟩ := hΦ3
  have lde := ld.trans le
  have hae := lde.ins ha3
  have tke := tk_ins (u := .ins C dx (putF "rest" (.ref dr) (putF "line" (.ref dl) (putF "price_of" (.ref dp) [])))) hae
  have t3 := (t2.trans lde.tk).trans tke
  have lx3 : LeX T (At a) H (upd He a (.ins C dx (putF "rest" (.ref dr) (putF "line" (.ref dl) (putF "price_of" (.ref dp) []))))) := LeX.updI (lx2.trans (.of lde)) rfl hae
  have kp3 : DkP (upd He a (.ins C dx (putF "rest" (.ref dr) (putF "line" (.ref dl) (putF "price_of" (.ref dp) []))))) dp remK PyData.int (rs.map fun r => (r, (1 : Int))) := by
    obtain ⟨kv, h1, h2⟩ := kp2.le lde
    exact ⟨kv, by rw [upd_ne (nea hae h1)]; exact h1, h2.mono tke⟩
  have kr3 : DkP (upd He a (.ins C dx (putF "rest" (.ref dr) (putF "line" (.ref dl) (putF "price_of" (.ref dp) []))))) dr remK PyData.int (rs.map fun r => (r, (1 : Int))) := by
    obtain ⟨kv, h1, h2⟩ := kr.le le
    exact ⟨kv, by rw [upd_ne (nea hae h1)]; exact h1, h2.mono tke⟩
  have gr3 : upd He a (.ins C dx (putF "rest" (.ref dr) (putF "line" (.ref dl) (putF "price_of" (.ref dp) [])))) dr ≠ none := by
    obtain ⟨kv, h1, h2⟩ := kr3
    rw [h1]
    exact fun z => by cases z
  have gl3 : upd He a (.ins C dx (putF "rest" (.ref dr) (putF "line" (.ref dl) (putF "price_of" (.ref dp) [])))) dl = some (.lst xl) := by rw [upd_ne (neal hae (lde.lst gl2))]; exact lde.lst gl2
  have dl4 := (dl3.mono lde.tk).mono tke
  have hT3 : Tabs T (upd He a (.ins C dx (putF "rest" (.ref dr) (putF "line" (.ref dl) (putF "price_of" (.ref dp) []))))) := tabs_ins hae (lde.tb hT2)
  have ha4 : upd He a (.ins C dx (putF "rest" (.ref dr) (putF "line" (.ref dl) (putF "price_of" (.ref dp) [])))) a = some (.ins C dx (putF "rest" (.ref dr) (putF "line" (.ref dl) (putF "price_of" (.ref dp) [])))) := upd_same
  have ndr0 : H dr = none := lx2.fr dr ndr
  generalize hH3 : upd He a (.ins C dx (putF "rest" (.ref dr) (putF "line" (.ref dl) (putF "price_of" (.ref dp) [])))) = H3 at t3 lx3 kp3 kr3 gr3 gl3 dl4 hT3 ha4 ⊢
  -- self.weight_of = {}
  have g3 := g.mono t3
  refine s_fldD (T := T) W.cl W.nW ev_dnew (ev_v 0 g3 rfl) ha4 (by show 3 < 100; decide) fun dw Hf ndw lf gw => ?_
  have haf := lf.ins ha4
  have tkf := tk_ins (u := .ins C dx (putF "weight_of" (.ref dw) (putF "rest" (.ref dr) (putF "line" (.ref dl) (putF "price_of" (.ref dp) []))))) haf
  have t4 := (t3.trans lf.tk).trans tkf
  have lx4 : LeX T (At a) H (upd Hf a (.ins C dx (putF "weight_of" (.ref dw) (putF "rest" (.ref dr) (putF "line" (.ref dl) (putF "price_of" (.ref dp) [])))))) := LeX.updI (lx3.trans (.of lf)) rfl haf
  have keepD : ∀ {d : Addr} {α β : Type} [DecidableEq α] {kf : α → List Key} {ef : β → PyData} {L : List (α × β)}, DkP H3 d kf ef L → DkP (upd Hf a (.ins C dx (putF "weight_of" (.ref dw) (putF "rest" (.ref dr) (putF "line" (.ref dl) (putF "price_of" (.ref dp) [])))))) d kf ef L := fun {d α β _ kf ef L} x => by
    obtain ⟨kv, h1, h2⟩ := x.le lf
    exact ⟨kv, by rw [upd_ne (nea haf h1)]; exact h1, h2.mono tkf⟩
  have kp4 := keepD kp3
  have kr4 := keepD kr3
  have kw4 : DkP (α := Tri) (β := Int) (upd Hf a (.ins C dx (putF "weight_of" (.ref dw) (putF "rest" (.ref dr) (putF "line" (.ref dl) (putF "price_of" (.ref dp) [])))))) dw triK PyData.int [] := ⟨[], by rw [upd_ne (nea haf gw)]; exact gw, .nil⟩
  have gl4 : upd Hf a (.ins C dx (putF "weight_of" (.ref dw) (putF "rest" (.ref dr) (putF "line" (.ref dl) (putF "price_of" (.ref dp) []))))) dl = some (.lst xl) := by rw [upd_ne (neal haf (lf.lst gl3))]; exact lf.lst gl3
  have dl5 := (dl4.mono lf.tk).mono tkf
  have hT4 : Tabs T (upd Hf a (.ins C dx (putF "weight_of" (.ref dw) (putF "rest" (.ref dr) (putF "line" (.ref dl) (putF "price_of" (.ref dp) [])))))) := tabs_ins haf (lf.tb hT3)
  have ha5 : upd Hf a (.ins C dx (putF "weight_of" (.ref dw) (putF "rest" (.ref dr) (putF "line" (.ref dl) (putF "price_of" (.ref dp) []))))) a = some (.ins C dx (putF "weight_of" (.ref dw) (putF "rest" (.ref dr) (putF "line" (.ref dl) (putF "price_of" (.ref dp) []))))) := upd_same
  have nerw : dr ≠ dw := fun e => by rw [← e] at ndw; exact gr3 ndw
  have ndw0 : H dw = none := lx3.fr dw ndw
  generalize hH4 : upd Hf a (.ins C dx (putF "weight_of" (.ref dw) (putF "rest" (.ref dr) (putF "line" (.ref dl) (putF "price_of" (.ref dp) []))))) = H4 at t4 lx4 kp4 kr4 kw4 gl4 dl5 hT4 ha5 ⊢
  clear keepD
  -- self.paid = []
  have g4 := g.mono t4
  refine s_fldN (T := T) W.cl W.nQ (ds := []) (ev_lst (ds := []) ea_nil) (ev_v 0 g4 rfl) ha5 (by show 4 < 100; decide) fun dq xq Hg ndq lg gq dq2 => ?_
  have hag := lg.ins ha5
  generalize hfs5 : putF "paid" (.ref dq) (putF "weight_of" (.ref dw) (putF "rest" (.ref dr) (putF "line" (.ref dl) (putF "price_of" (.ref dp) [])))) = fs5
  have tkg := tk_ins (u := .ins C dx fs5) hag
  have t5 := (t4.trans lg.tk).trans tkg
  have lx5 : LeX T (At a) H (upd Hg a (.ins C dx fs5)) := LeX.updI (lx4.trans (.of lg)) rfl hag
  have keepD : ∀ {d : Addr} {α β : Type} [DecidableEq α] {kf : α → List Key} {ef : β → PyData} {L : List (α × β)}, DkP H4 d kf ef L → DkP (upd Hg a (.ins C dx fs5)) d kf ef L := fun {d α β _ kf ef L} x => by
    obtain ⟨kv, h1, h2⟩ := x.le lg
    exact ⟨kv, by rw [upd_ne (nea hag h1)]; exact h1, h2.mono tkg⟩
  have kp5 := keepD kp4
  have kr5 := keepD kr4
  have kw5 := keepD kw4
  clear keepD
  have gl5 : upd Hg a (.ins C dx fs5) dl = some (.lst xl) := by rw [upd_ne (neal hag (lg.lst gl4))]; exact lg.lst gl4
  have gq5 : upd Hg a (.ins C dx fs5) dq = some (.lst xq) := by rw [upd_ne (neal hag gq)]; exact gq
  have dl6 := (dl5.mono lg.tk).mono tkg
  have dq5 := dq2.mono tkg
  have hT5 : Tabs T (upd Hg a (.ins C dx fs5)) := tabs_ins hag (lg.tb hT4)
  have ha6 : upd Hg a (.ins C dx fs5) a = some (.ins C dx fs5) := upd_same
  have nelq : dl ≠ dq := fun e => by rw [← e, gl4] at ndq; cases ndq
  have ndq0 : H dq = none := lx4.fr dq ndq
  have hfl5 : fs5.length < 100 := by rw [← hfs5]; show 5 < 100; decide
  generalize hH5 : upd Hg a (.ins C dx fs5) = H5 at t5 lx5 kp5 kr5 kw5 gl5 gq5 dl6 dq5 hT5 ha6 ⊢
  -- self.pairs = live_pairs(program, buffers)
  have g5 := g.mono t5
  refine s_fld (T := T) W.cl W.nS (ev_callR (ds := [encProg p, encBuf wd room]) C2 hr (ea_cons (ev_v 1 g5 rfl) (ea_1 (ev_v 2 g5 rfl))) ⟨p, wd, room, hp, rfl, rfl⟩) (ev_v 0 g5 rfl) ha6 hfl5 fun vp Hh lh hvp => ?_
  obtain ⟨_, evp, hvp⟩ := hvp
  cases evp
  have hah := lh.ins ha6
  have tkh := tk_ins (u := .ins C dx (putF "pairs" vp fs5)) hah
  have t6 := (t5.trans lh.tk).trans tkh
  have lx6 : LeX T (At a) H (upd Hh a (.ins C dx (putF "pairs" vp fs5))) := LeX.updI (lx5.trans (.of lh)) rfl hah
  have keepD : ∀ {d : Addr} {α β : Type} [DecidableEq α] {kf : α → List Key} {ef : β → PyData} {L : List (α × β)}, DkP H5 d kf ef L → DkP (upd Hh a (.ins C dx (putF "pairs" vp fs5))) d kf ef L := fun {d α β _ kf ef L} x => by
    obtain ⟨kv, h1, h2⟩ := x.le lh
    exact ⟨kv, by rw [upd_ne (nea hah h1)]; exact h1, h2.mono tkh⟩
  have kp6 := keepD kp5
  have kr6 := keepD kr5
  have kw6 := keepD kw5
  clear keepD
  have gl6 : upd Hh a (.ins C dx (putF "pairs" vp fs5)) dl = some (.lst xl) := by rw [upd_ne (neal hah (lh.lst gl5))]; exact lh.lst gl5
  have gq6 : upd Hh a (.ins C dx (putF "pairs" vp fs5)) dq = some (.lst xq) := by rw [upd_ne (neal hah (lh.lst gq5))]; exact lh.lst gq5
  have dl7 := (dl6.mono lh.tk).mono tkh
  have dq6 := (dq5.mono lh.tk).mono tkh
  have hvp6 := hvp.mono tkh
  have hT6 : Tabs T (upd Hh a (.ins C dx (putF "pairs" vp fs5))) := tabs_ins hah (lh.tb hT5)
  have ha7 : upd Hh a (.ins C dx (putF "pairs" vp fs5)) a = some (.ins C dx (putF "pairs" vp fs5)) := upd_same
  have hf6 : MkFs (putF "pairs" vp fs5) ⟨dp, dl, dr, dw, dq, vp⟩ := by
    rw [← hfs5]
    exact ⟨rfl, rfl, rfl, rfl, rfl, rfl, rfl, rfl, rfl, rfl⟩
  have hfl6 : (putF "pairs" vp fs5).length < 100 := by rw [← hfs5]; show 6 < 100; decide
  generalize hH6 : upd Hh a (.ins C dx (putF "pairs" vp fs5)) = H6 at t6 lx6 kp6 kr6 kw6 gl6 gq6 dl7 dq6 hvp6 hT6 ha7 ⊢
  have ma6 : MktAt C H6 a ⟨dp, dl, dr, dw, dq, vp⟩ := ⟨dx, _, ha7, hf6⟩
  have ml6 : MktLn H6 ⟨dp, dl, dr, dw, dq, vp⟩ (lineM rs) := ⟨xl, gl6, dl7⟩
  have hlnl : (lineM rs).length ≤ 1000 := by unfold lineM; rw [List.length_mergeSort]; exact hrl
  have hpl : (liveM p wd room).length ≤ 1536 := liveM_le p hp wd room
  have hlf : ∀ y ∈ liveM p wd room, (lineM rs).filter (fun x => cutsM x y) ≠ [] := fun y hy e => by
    refine hcut y hy ?_
    rw [List.filter_eq_nil_iff] at e ⊢
    intro x hx
    exact e x (List.mem_mergeSort.mpr hx)
  -- self.is_possible = all([..])
  have g6 := g.mono t6
  refine s_fld (T := T) (s := .d (.bool true)) W.cl W.nI (EB.v (EB.to (eb_all (bs := (liveM p wd room).map fun y => true) c ?_ M0.all) (by simp))) (ev_v 0 g6 rfl) ha7 hfl6 fun vb Hi li hvb => ?_
  · refine EvL.to (ev_lc c (enc := encT) (L := liveM p wd room) (ei_tup (EvD.ofV (mk_fld W.cl W.nS ma6 (fun fs h => h.s) (ev_v 0 g6 rfl)) hvp6)) 4 g6 (fun y => some (.bool true)) (fun y H' σ2 Xb hy l' hb g2 => ?_) (by omega) (blkOk_by (N := nMi) (sc := defScope (clsM 34 0)) (own := [("pair", 4)]) (by decide +kernel))) (by rw [filterMap_some, List.map_map]; rfl)
    obtain ⟨s0, H0, C', cl, fp, rfl⟩ := hb
    refine ⟨et_nil, fun d hd => ?_⟩
    cases hd
    refine EB.v (EB.to (eb_neNil (by exact Nat.lt_trans (Nat.add_lt_add_left (by decide : 64 < 65) _) (room65 hr)) (EvL.st (ev_cutters W M1 hr (ev_v 0 g2 rfl) (ma6.le l') (ml6.le l') (ev_v 4 g2 rfl) (by omega))) (shapedRs _)) ?_)
    have := hlf y hy
    cases hh : (lineM rs).filter (fun x => cutsM x y) with
    | nil => exact absurd hh this
    | cons z zs => rfl
  obtain ⟨_, evb, hvb⟩ := hvb
  cases evb
  obtain rfl := hvb.inv_bl
  have hai := li.ins ha7
  have tki := tk_ins (u := .ins C dx (putF "is_possible" (.bl true) (putF "pairs" vp fs5))) hai
  have t7 := (t6.trans li.tk).trans tki
  have lx7 : LeX T (At a) H (upd Hi a (.ins C dx (putF "is_possible" (.bl true) (putF "pairs" vp fs5)))) := LeX.updI (lx6.trans (.of li)) rfl hai
  have keepD : ∀ {d : Addr} {α β : Type} [DecidableEq α] {kf : α → List Key} {ef : β → PyData} {L : List (α × β)}, DkP H6 d kf ef L → DkP (upd Hi a (.ins C dx (putF "is_possible" (.bl true) (putF "pairs" vp fs5)))) d kf ef L := fun {d α β _ kf ef L} x => by
    obtain ⟨kv, h1, h2⟩ := x.le li
    exact ⟨kv, by rw [upd_ne (nea hai h1)]; exact h1, h2.mono tki⟩
  have kp7 := keepD kp6
  have kr7 := keepD kr6
  have kw7 := keepD kw6
  clear keepD
  have gl7 : upd Hi a (.ins C dx (putF "is_possible" (.bl true) (putF "pairs" vp fs5))) dl = some (.lst xl) := by rw [upd_ne (neal hai (li.lst gl6))]; exact li.lst gl6
  have gq7 : upd Hi a (.ins C dx (putF "is_possible" (.bl true) (putF "pairs" vp fs5))) dq = some (.lst xq) := by rw [upd_ne (neal hai (li.lst gq6))]; exact li.lst gq6
  have dl8 := (dl7.mono li.tk).mono tki
  have dq7 := (dq6.mono li.tk).mono tki
  have hvp7 := (hvp6.mono li.tk).mono tki
  have hT7 : Tabs T (upd Hi a (.ins C dx (putF "is_possible" (.bl true) (putF "pairs" vp fs5)))) := tabs_ins hai (li.tb hT6)
  have ha8 : upd Hi a (.ins C dx (putF "is_possible" (.bl true) (putF "pairs" vp fs5))) a = some (.ins C dx (putF "is_possible" (.bl true) (putF "pairs" vp fs5))) := upd_same
  have hf7 : MkFs (putF "is_possible" (.bl true) (putF "pairs" vp fs5)) ⟨dp, dl, dr, dw, dq, vp⟩ := by
    rw [← hfs5]
    exact ⟨rfl, rfl, rfl, rfl, rfl, rfl, rfl, rfl, rfl, rfl⟩
  have hpos : (putF "is_possible" (.bl true) (putF "pairs" vp fs5)).lookup ("is_possible" : Str) = some (.bl true) := by
    rw [← hfs5]
    rfl
  generalize hH7 : upd Hi a (.ins C dx (putF "is_possible" (.bl true) (putF "pairs" vp fs5))) = H7 at t7 lx7 kp7 kr7 kw7 gl7 gq7 dl8 dq7 hvp7 hT7 ha8 ⊢
  have g7 := g.mono t7
  have ndl : (lineM rs).Nodup := (List.mergeSort_perm rs (dataLe false ptD)).nodup_iff.mpr nd
  -- if self.is_possible: self.pay()
  refine s_if0 (T := T) (k := true) (eb_val (EvD.ofV (ev_fld W.cl W.nI (ev_v 0 g7 rfl) ha8 hpos) (.bl true))) (fun _ H8 l8 => ?_) fun h => by cases h
  have g8 := g7.mono l8.tk
  refine s_exprG (w_meth0 (T := T) W.cl M2 hr (ev_v 0 g8 rfl) (l8.ins ha8) hf7.m3 fun H9 l9 => ?_)
  have l89 := l8.trans l9
  refine ⟨a, ⟨dp, dl, dr, dw, dq, vp⟩, lineM rs, rs.map fun r => (r, (1 : Int)), liveM p wd room, rfl, l89.tb hT7, ⟨dx, _, l89.ins ha8, hf7⟩, ⟨xl, l89.lst gl7, dl8.mono l89.tk⟩, ⟨nelq, nerw⟩, ndl, hlnl, fun r hr' => ?_, by rw [List.length_map]; exact hrl, ⟨kr7.le l89, kw7.le l89, xq, l89.lst gq7, dq7.mono l89.tk⟩, hvp7.mono l89.tk, by omega, hlf, fun H10 Wt l10 dy10 => s_nil (s_nil ?_)⟩
  · rw [look_ones, if_pos (List.mem_mergeSort.mp hr')]
    rfl
  · have lx9 : LeX T (At a) H H9 := lx7.trans (.of l89)
    have dy9 : MktDy H9 ⟨dp, dl, dr, dw, dq, vp⟩ (rs.map fun r => (r, (1 : Int))) [] [] := ⟨kr7.le l89, kw7.le l89, xq, l89.lst gq7, dq7.mono l89.tk⟩
    have tk10 := w3_tk dy9 l10
    obtain ⟨_, _, xq10, hq10, hdq10⟩ := dy10
    have hne3 : ∀ b o, H b = some o → ¬ W3 ⟨dp, dl, dr, dw, dq, vp⟩ b := fun b o e z => by
      rcases z with z | z | z
      · rw [z, ndr0] at e; cases e
      · rw [z, ndw0] at e; cases e
      · rw [z, ndq0] at e; cases e
    have ins10 : H10 a = some (.ins C dx (putF "is_possible" (.bl true) (putF "pairs" vp fs5))) := l10.ex a _ (hne3 a _ ha) (l89.ins ha8) fun _ z => by cases z
    have ndpr : dp ≠ dr := fun e => by
      rw [← e] at ndr
      obtain ⟨kv, hk, _⟩ := kp2
      rw [hk] at ndr
      cases ndr
    have ndpw : dp ≠ dw := fun e => by
      rw [← e] at ndw
      obtain ⟨kv, hk, _⟩ := kp3
      rw [hk] at ndw
      cases ndw
    have ndpq : dp ≠ dq := fun e => by
      rw [← e] at ndq
      obtain ⟨kv, hk, _⟩ := kp4
      rw [hk] at ndq
      cases ndq
    refine q ⟨dp, dl, dr, dw, dq, vp⟩ H10 xq10 dx _ ⟨fun b o hb e nt => l10.ex b o (hne3 b o e) (lx9.ex b o hb e nt) nt, fun t => l10.tb (lx9.tb t), fun b hb => lx9.fr b (l10.fr b hb)⟩ ins10 hf7 hpos ?_ ((hvp7.mono l89.tk).mono tk10) hq10 hdq10
    obtain ⟨kv, hk, hr10⟩ := kp7.le l89
    exact ⟨kv, l10.ex _ _ (fun z => z.elim ndpr fun z => z.elim ndpw ndpq) hk (fun _ z => by cases z), hr10.mono tk10⟩
end
end RF
set_option Elab.async false
set_option linter.all false
set_option maxRecDepth 100000
set_option maxHeartbeats 4000000
/-! cheapest -/
namespace RF
open PySem PySem.Spec L2 LamX NdefX
open PyProof.Rows hiding St
open PySem.W (dataLe)

theorem pay_sub (line : List Rem) : ∀ (ys : List Tri) (st : List (Rem × Int) × List Rem), line.Nodup → RestOk line st.1 → (∀ y ∈ ys, someM line y ≠ []) → (∀ x ∈ st.2, x ∈ line) → ∀ x ∈ (ys.foldl (payStep line) st).2, x ∈ line
  | [], st, _, _, _, h => h
  | y :: ys, st, nd, hR, hs, h => by
    refine pay_sub line ys (payStep line st y) nd (restM_ok y nd hR).1 (fun z hz => hs z (List.mem_cons_of_mem _ hz)) fun x hx => ?_
    unfold payStep at hx
    simp only at hx
    split at hx
    · exact h x hx
    · rename_i hany
      rcases List.mem_append.mp hx with hx | hx
      · exact h x hx
      · have hnn := newM_ne nd hR (hs y List.mem_cons_self) (by simpa using hany)
        rw [List.getLast?_eq_some_getLast hnn] at hx
        have e : x = (newM line st y).getLast hnn := by simpa using hx
        have hm := List.getLast_mem hnn
        rw [← e] at hm
        exact (List.mem_filter.mp (List.mem_filter.mp hm).1).1
theorem mkPaid_sub {rs : List Rem} {pairs : List Tri} (nd : rs.Nodup) (hs : ∀ y ∈ pairs, rs.filter (fun x => cutsM x y) ≠ []) : ∀ x ∈ mkPaid rs pairs, x ∈ rs := by
  intro x hx
  have ndl : (lineM rs).Nodup := (List.mergeSort_perm rs (dataLe false ptD)).nodup_iff.mpr nd
  have := pay_sub (lineM rs) (pairs.mergeSort (dataLe false (keyP (lineM rs)))) (rs.map fun r => (r, (1 : Int)), []) ndl (fun r hr => by
    show (look (rs.map fun r => (r, (1 : Int))) r).isSome = true
    rw [look_ones, if_pos (List.mem_mergeSort.mp hr)]
    rfl) (fun y hy e => by
      refine hs y (List.mem_mergeSort.mp hy) ?_
      unfold someM at e
      rw [List.filter_eq_nil_iff] at e ⊢
      intro z hz
      exact e z (List.mem_mergeSort.mpr hz)) (fun x hx => by cases hx) x hx
  exact List.mem_mergeSort.mp this
theorem mkPaid_le (rs : List Rem) (pairs : List Tri) (nd : rs.Nodup) : (mkPaid rs pairs).length ≤ pairs.length := by
  have ndl : (lineM rs).Nodup := (List.mergeSort_perm rs (dataLe false ptD)).nodup_iff.mpr nd
  have := (pay_inv ndl (pairs.mergeSort (dataLe false (keyP (lineM rs)))) (rs.map fun r => (r, (1 : Int)), []) fun r hr => by
    show (look (rs.map fun r => (r, (1 : Int))) r).isSome = true
    rw [look_ones, if_pos (List.mem_mergeSort.mp hr)]
    rfl).2.2
  rw [List.length_mergeSort] at this
  simp only [List.length_nil, Nat.zero_add] at this
  exact this
theorem sum_ones : ∀ n : Nat, (List.replicate n (1 : Int)).sum = n
  | 0 => rfl
  | n + 1 => by
    rw [List.replicate_succ, List.sum_cons, sum_ones n]
    omega
/-- what the market buys -/
def cheapM (p : Prog) (wd : Str) (room : Int) (rs : List Rem) : List Rem := (boughtM (mkPaid rs (liveM p wd room)) (liveM p wd room)).mergeSort (dataLe false encR)
section
variable {P : Program} {w : World} {K : PySem.W.Frag} {mg : Str → Option Value} {base : Heap} {T : List (Addr × Str)} {f : Addr} {fd : FuncData} {k : Nat} {C : Addr}
def spCheap (T : List (Addr × Str)) : Sp := fun vs H Q _ => ∃ (p : Prog) (wd : Str) (room : Int) (rs : List Rem) (v1 v2 v3 : V), vs = [v1, v2, v3] ∧ Tabs T H ∧ Dt H v1 (encProg p) ∧ Dt H v2 (encBuf wd room) ∧ PlOk H v3 rs ∧ rs.Nodup ∧ rs.length ≤ 1000 ∧ ProgOk p ∧
  (∀ y ∈ liveM p wd room, rs.filter (fun x => cutsM x y) ≠ []) ∧ ∀ v H', Le T H H' → Dt H' v (.tuple [.int ((cheapM p wd room rs).length : Nat), .tuple ((cheapM p wd room rs).map encR)]) → Q v H'
abbrev nCh : List Str := ["program", "buffers", "price_list", "market", "found", "remedy"]
theorem ok_cheapest (M0 : Nm mg) (W : MktT K C) (F : Fun K "cheapest" "cheapest" (topS 35) f fd) (M1 : MakC P w K mg base k "Market" C ["self", "program", "buffers", "price_list"] (spMkI T C)) (M2 : MetC P w K mg base (k + 1) C "bought" ["self"] (spBuy T C)) : FnOk P w K mg base CX0 (k + 2) f fd ["program", "buffers", "price_list"] (spCheap T) := by
  have S : FnScope nCh ["program", "buffers", "price_list"] (defScope (topS 35)) := ⟨rfl, rfl, rfl, by decide +kernel, rfl, by decide +kernel, by decide +kernel⟩
  refine fun_okW F S (fun vs H Q E h => ?_) fun X cdv A outer s H vs Q E e c hr h => ?_
  · obtain ⟨p, wd, room, rs, v1, v2, v3, rfl, _⟩ := h
    rfl
  subst e
  obtain ⟨p, wd, room, rs, v1, v2, v3, rfl, hT, h1, h2, h3, nd, hrl, hp, hcut, q⟩ := h
  have hu := room1 hr
  have g : Sg H (L2.start nCh [v1, v2, v3]) [.d (encProg p), .d (encBuf wd room), .v v3, .x, .x, .x] := .cons ⟨_, rfl, h1⟩ (.cons ⟨_, rfl, h2⟩ (.cons rfl (.cons True.intro (.cons True.intro (.cons True.intro .nil)))))
  have hpl : (liveM p wd room).length ≤ 1536 := liveM_le p hp wd room
  -- market = Market(program, buffers, price_list)
  refine s_setG c 3 (w_make (T := T) (ss := [.d (encProg p), .d (encBuf wd room), .v v3]) M1 hr (ea_cons (ev_v 0 g rfl) (ea_cons (ev_v 1 g rfl) (ea_1 (ev_v 2 g rfl)))) fun vs H1 y dx l1 hv hy hdx hne => ?_)
  cases hv with
  | cons q1 t1 =>
    cases t1 with
    | cons q2 t2 =>
      cases t2 with
      | cons q3 t3 =>
        cases t3
        obtain ⟨_, e1, q1⟩ := q1
        cases e1
        obtain ⟨_, e2, q2⟩ := q2
        cases e2
        cases (show some _ = some v3 from q3)
        have lu : Le T H1 (upd (upd H1 dx (.own y)) y (.ins C dx [])) := (Le.new hdx).trans (.new (by rw [upd_ne (Ne.symm hne)]; exact hy))
        refine ⟨y, dx, p, wd, room, rs, _, _, _, rfl, lu.tb (l1.tb hT), upd_same, q1.mono lu.tk, q2.mono lu.tk, (h3.le l1).le lu, nd, hrl, hp, hcut, fun M H2 xq dx' fs l2 hi hf hpos kp hvp hq hdq => ⟨rfl, ?_⟩⟩
        have lH : Le T H H2 := l1.trans ⟨fun b o e nt => l2.ex b o (fun z => by rw [show b = y from z, hy] at e; cases e) (lu.ex b o e nt) nt, fun t => l2.tb (lu.tb t), fun b hb => lu.fr b (l2.fr b hb)⟩
        have g2 : Sg H2 ((L2.start nCh [v1, v2, v3]).set 3 (some (.ref y))) [.d (encProg p), .d (encBuf wd room), .v v3, .v (.ref y), .x, .x] := (g.mono lH.tk).set (s := .v (.ref y)) rfl 3
        have ma : MktAt C H2 y M := ⟨dx', fs, hi, hf⟩
        have hpaid := mkPaid_le rs (liveM p wd room) nd
        -- if not market.is_possible: return None
        refine s_if0 (T := T) (k := !true) (eb_not (eb_val (EvD.ofV (ev_fld W.cl W.nI (ev_v 3 g2 rfl) hi hpos) (.bl true)))) (fun h => by cases h) fun _ H3 l3 => ?_
        have g3 := g2.mono l3.tk
        -- found = market.bought()
        refine s_setG c 4 (w_meth0 (T := T) W.cl M2 hr (ev_v 3 g3 rfl) (l3.ins hi) hf.m4 fun H4 l4 => ?_)
        have l34 := l3.trans l4
        refine ⟨y, M, mkPaid rs (liveM p wd room), liveM p wd room, xq, rfl, ma.le l34, l34.lst hq, hdq.mono l34.tk, by omega, hvp.mono l34.tk, by omega, fun v5 H5 l5 hv5 => ?_⟩
        have l35 := l34.trans l5
        have g5 : Sg H5 (((L2.start nCh [v1, v2, v3]).set 3 (some (.ref y))).set 4 (some v5)) [.d (encProg p), .d (encBuf wd room), .v v3, .v (.ref y), .d (.tuple ((cheapM p wd room rs).map encR)), .x] := (g2.mono l35.tk).set (s := .d (.tuple ((cheapM p wd room rs).map encR))) ⟨_, rfl, hv5⟩ 4
        have kp5 := kp.le l35
        have hi5 := l35.ins hi
        have hsub : ∀ x ∈ cheapM p wd room rs, x ∈ rs := fun x hx => by
          unfold cheapM at hx
          rw [List.mem_mergeSort] at hx
          exact mkPaid_sub nd hcut x ((buys_le _ _).2 x hx)
        have hcl : (cheapM p wd room rs).length ≤ 2000 := by
          unfold cheapM
          rw [List.length_mergeSort]
          have := (buys_le (pairs := liveM p wd room) (mkPaid rs (liveM p wd room)).reverse (mkPaid rs (liveM p wd room))).1
          unfold boughtM
          omega
        refine s_retD (T := T) (ev_tup (ds := [.int ((cheapM p wd room rs).length : Nat), .tuple ((cheapM p wd room rs).map encR)]) (ea_cons (EvD.to (ev_sumN (ns := (cheapM p wd room rs).map fun _ => 1) c (EvL.to (ev_lc c (enc := encR) (L := cheapM p wd room rs) (ei_tup (ev_v 4 g5 rfl)) 5 g5 (fun x => some (.int 1)) (fun x H' σ2 Xb hx l' hb g2 => ?_) (by omega) (blkOk_by (N := nCh) (sc := defScope (topS 35)) (own := [("remedy", 5)]) (by decide +kernel))) (by rw [filterMap_some, List.map_map]; rfl)) M0.sum) ?_) (ea_1 (ev_v 4 g5 rfl)))) fun v9 H9 l9 hv9 => q v9 H9 ((lH.trans l35).trans l9) hv9
        · obtain ⟨s0, H0, C', cl, fp, rfl⟩ := hb
          refine ⟨et_nil, fun d hd => ?_⟩
          cases hd
          exact ev_pget (ef := PyData.int) (b := (1 : Int)) remK_inj hu (ev_fld W.cl W.nP (ev_v 3 g2 rfl) (l'.ins hi5) hf.p) (kp5.le l') (ev_v 5 g2 rfl) (by rw [look_ones, if_pos (hsub x hx)])
        · congr 1
          rw [List.map_const', sum_ones]
end
end RF
set_option Elab.async false
set_option linter.all false
set_option maxRecDepth 100000
set_option maxHeartbeats 8000000
/-! the law's urn: take, of -/
namespace RF
open PySem PySem.Spec L2 LamX NdefX
open PyProof.Rows hiding St
open PySem.W (dataLe)

section
variable {T : List (Addr × Str)} {X : Cx} {e a b o i : Expr} {es : List Expr} {σ : St} {H : Hp} {pos pos' p apos : Pos} {q : Addr} {xs : List V} {rest : List Stmt} {D : Ends}
/-- l[i] = e -/
theorem s_lput {v0 : V} {k : Int} {j : Nat} {s : Sl} (he : Ev T X e σ H s) (ho : Ev T X o σ H (.v (.ref q))) (hq : H q = some (.lst xs)) (hi : EvD T X i σ H (.int k)) (hj : ixN xs.length k = some j)
    (kk : ∀ v H', Le T H H' → SlOk H' (some v) s → wSs X rest D σ (upd H' q (.lst (xs.set j v)))) (hs : swapsWithSole [.Subscript o i pos'] e pos.line X.env = pure false := by rfl) (hw : swappedStores [.Subscript o i pos'] e X.env = pure none := by rfl)
    (h1 : (assignEach [.Subscript o i pos'] X.env).map (·.2) = [assign (.Subscript o i pos') X.env] := by rfl) (ha : ∀ v, assign (.Subscript o i pos') X.env v = (do
      let ov ← holding [v] (eval o X.env)
      let iv ← holding [v, ov] (eval i X.env)
      standAt pos'
      holding [v, ov, iv] (setItem ov iv v)
      release [v, ov, iv] []) := by intro _; rfl) : wSs X (.Assign [.Subscript o i pos'] e pos :: rest) D σ H := by
  refine s_cons (w_ps (ps_asg pe_w (pg_sub pe_w pe_w set_list ha) hs hw h1) ?_)
  refine he H (.refl H) _ fun v H1 l1 h1 => ho H1 l1 _ fun x H2 l2 h2 => hi H2 (l1.trans l2) _ fun y H3 l3 h3 => ?_
  have e : some x = some (V.ref q) := h2
  cases e
  obtain ⟨_, e, h3⟩ := h3
  cases e
  obtain rfl := h3.inv_int
  exact ⟨q, xs, k, j, rfl, rfl, ((l1.trans l2).trans l3).lst hq, hj, kk v H3 ((l1.trans l2).trans l3) (h1.mono (l2.trans l3).tk)⟩
/-! operators on ints -/
theorem ev_mod {i j : Int} (ha : EvD T X a σ H (.int i)) (hb : EvD T X b σ H (.int j)) (hj : 0 < j) : EvD T X (.BinOp a .Mod b pos) σ H (.int (i % j)) := ev_I (f := fun i j => i % j) (C := fun _ j => 0 < j) op_mod ha hb hj
theorem ev_mul {i j : Int} (ha : EvD T X a σ H (.int i)) (hb : EvD T X b σ H (.int j)) (hc : CMul i j) : EvD T X (.BinOp a .Mult b pos) σ H (.int (i * j)) := ev_I (f := fun i j => i * j) (C := CMul) op_mul ha hb hc
theorem ev_fdiv {i j : Int} (ha : EvD T X a σ H (.int i)) (hb : EvD T X b σ H (.int j)) (hc : CDiv i j) : EvD T X (.BinOp a .FloorDiv b pos) σ H (.int (i / j)) := ev_I (f := fun i j => i / j) (C := CDiv) op_fdiv ha hb hc
theorem ev_pow {i j : Int} (ha : EvD T X a σ H (.int i)) (hb : EvD T X b σ H (.int j)) (hc : CPow i j) : EvD T X (.BinOp a .Pow b pos) σ H (.int (i ^ j.toNat)) := ev_I (f := fun i j => i ^ j.toNat) (C := CPow) op_pow ha hb hc
end
/-- the urn: n bounds what was taken -/
def UrnAt (H : Hp) (u : Addr) (n : Nat) : Prop := ∃ a b c : Int, H u = some (.lst [.int a, .int b, .int c]) ∧ 0 ≤ a ∧ 0 ≤ b ∧ b < 2 ^ 61 ∧ 0 ≤ c ∧ c ≤ n
theorem UrnAt.le {T : List (Addr × Str)} {H H' : Hp} {u : Addr} {n : Nat} (l : Le T H H') (h : UrnAt H u n) : UrnAt H' u n := by
  obtain ⟨a, b, c, h1, h2⟩ := h
  exact ⟨a, b, c, l.lst h1, h2⟩
theorem UrnAt.tk {T : List (Addr × Str)} {H H' : Hp} {u : Addr} {n : Nat} (h : UrnAt H u n) (l : LeX T (At u) H H') : Tk H H' := by
  obtain ⟨a, b, c, h1, _⟩ := h
  exact l.tk (at_tup h1)
section
variable {P : Program} {w : World} {K : PySem.W.Frag} {mg : Str → Option Value} {base : Heap} {T : List (Addr × Str)} {f : Addr} {fd : FuncData} {k : Nat}
def spTake (T : List (Addr × Str)) : Sp := fun vs H Q _ => ∃ (u : Addr) (n m : Nat) (v2 : V), vs = [.ref u, v2] ∧ UrnAt H u n ∧ n ≤ 100000 ∧ Dt H v2 (.int (m : Int)) ∧ 0 < m ∧ m ≤ 1000 ∧
  ∀ v (j : Nat) H', LeX T (At u) H H' → UrnAt H' u (n + 1) → Dt H' v (.int (j : Int)) → j < m → Q v H'
abbrev nTk : List Str := ["_law_urn_here", "_law_many", "_law_digit", "_law_prime", "_law_mixed"]
theorem ok_law_take (M : Nm mg) (F : Fun K "_law_take" "_law_take" (topS 38) f fd) : FnOk P w K mg base CX0 (k + 1) f fd ["_law_urn_here", "_law_many"] (spTake T) := by
  have S : FnScope nTk ["_law_urn_here", "_law_many"] (defScope (topS 38)) := ⟨rfl, rfl, rfl, by decide +kernel, rfl, by decide +kernel, by decide +kernel⟩
  refine fun_okW F S (fun vs H Q E h => ?_) fun X cdv A outer s H vs Q E e cx hr h => ?_
  · obtain ⟨u, n, m, v2, rfl, _⟩ := h
    rfl
  subst e
  obtain ⟨u, n, m, v2, rfl, ⟨a, b, c, hu, ha, hb, hb2, hc, hc2⟩, hn, h2, hm, hm2, q⟩ := h
  have g : Sg H (L2.start nTk [.ref u, v2]) [.v (.ref u), .d (.int (m : Int)), .x, .x, .x] := .cons rfl (.cons ⟨_, rfl, h2⟩ (.cons True.intro (.cons True.intro (.cons True.intro .nil))))
  have dl : ∀ (Hx : Hp) (x y z : Int), DtL Hx [V.int x, V.int y, V.int z] [.int x, .int y, .int z] := fun Hx x y z => .cons (.int _) (.cons (.int _) (.cons (.int _) .nil))
  refine s_if0 (T := T) (eb_gt (ev_ixL (ev_v 0 g rfl) hu (dl H a b c) ev_int rfl) ev_int) (fun h H1 l1 => ?_) fun h H1 l1 => ?_
  · have ha0 : 0 < a := by simpa using h
    have g1 := g.mono l1.tk
    have hu1 := l1.lst hu
    refine s_set (T := T) cx 2 g1 (s := .d (.int (a % m))) (ev_mod (ev_ixL (ev_v 0 g1 rfl) hu1 (dl H1 a b c) ev_int rfl) (ev_v 1 g1 rfl) (by omega)) fun v2 σ2 H2 l2 _ g2 => ?_
    have g2' : Sg H2 σ2 [.v (.ref u), .d (.int (m : Int)), .d (.int (a % m)), .x, .x] := g2
    have hu2 := l2.lst hu1
    refine s_lput (T := T) (v0 := .non) (ev_fdiv (ev_ixL (ev_v 0 g2' rfl) hu2 (dl H2 a b c) ev_int rfl) (ev_v 1 g2' rfl) ⟨by omega, by omega⟩) (ev_v 0 g2' rfl) hu2 ev_int (j := 0) rfl fun v3 H3 l3 hv3 => ?_
    obtain ⟨_, e3, hv3⟩ := hv3
    cases e3
    obtain rfl := hv3.inv_int
    have hu3 := l3.lst hu2
    have t3 := l3.tk.trans (tk_lst (o := .lst ([V.int a, V.int b, V.int c].set 0 (.int (a / m)))) hu3)
    have lx : LeX T (At u) H (upd H3 u (.lst ([V.int a, V.int b, V.int c].set 0 (.int (a / m))))) := LeX.updL (.of (l1.trans (l2.trans l3))) rfl hu3
    have hmod : a % (m : Int) = ((a % m).toNat : Int) := by have := Int.emod_nonneg a (b := (m : Int)) (by omega); omega
    refine s_retD (T := T) (d := .int (a % m)) (ev_v 2 (g2'.mono t3) rfl) fun v4 H4 l4 hv4 => q v4 (a % m).toNat H4 (lx.trans (.of l4)) ?_ (by rw [hmod] at hv4; exact hv4) ?_
    · exact ⟨a / m, b, c, l4.lst upd_same, Int.ediv_nonneg ha (by omega), hb, hb2, hc, by omega⟩
    · have := Int.emod_lt_of_pos a (b := (m : Int)) (by omega)
      omega
  · have g1 := g.mono l1.tk
    have hu1 := l1.lst hu
    refine s_lput (T := T) (v0 := .non) (ev_add (ev_ixL (ev_v 0 g1 rfl) hu1 (dl H1 a b c) ev_int rfl) ev_int) (ev_v 0 g1 rfl) hu1 ev_int (j := 2) rfl fun v3 H3 l3 hv3 => ?_
    obtain ⟨_, e3, hv3⟩ := hv3
    cases e3
    obtain rfl := hv3.inv_int
    have hu3 := l3.lst hu1
    have t3 := l3.tk.trans (tk_lst (o := .lst ([V.int a, V.int b, V.int c].set 2 (.int (c + 1)))) hu3)
    have lx : LeX T (At u) H (upd H3 u (.lst ([V.int a, V.int b, V.int c].set 2 (.int (c + 1))))) := LeX.updL (.of (l1.trans l3)) rfl hu3
    have hu4 : upd H3 u (.lst ([V.int a, V.int b, V.int c].set 2 (.int (c + 1)))) u = some (.lst [.int a, .int b, .int (c + 1)]) := upd_same
    generalize upd H3 u (.lst ([V.int a, V.int b, V.int c].set 2 (.int (c + 1)))) = H4 at t3 lx hu4 ⊢
    have g4 := g1.mono t3
    have hc5 : 0 ≤ (c + 1) % 5 ∧ (c + 1) % 5 < 5 := ⟨Int.emod_nonneg _ (by decide), Int.emod_lt_of_pos _ (by decide)⟩
    obtain ⟨pr, hpr, hp0, hp1⟩ : ∃ pr : Int, L2.atI ([2147483647, 2147483629, 2147483587, 2147483579, 2147483563].map PyData.int) ((c + 1) % 5) = some (.int pr) ∧ 0 < pr ∧ pr < 2 ^ 31 := by
      have : (c + 1) % 5 = 0 ∨ (c + 1) % 5 = 1 ∨ (c + 1) % 5 = 2 ∨ (c + 1) % 5 = 3 ∨ (c + 1) % 5 = 4 := by omega
      rcases this with h | h | h | h | h <;> rw [h]
      · exact ⟨2147483647, rfl, by decide, by decide⟩
      · exact ⟨2147483629, rfl, by decide, by decide⟩
      · exact ⟨2147483587, rfl, by decide, by decide⟩
      · exact ⟨2147483579, rfl, by decide, by decide⟩
      · exact ⟨2147483563, rfl, by decide, by decide⟩
    refine s_set (T := T) cx 3 g4 (s := .d (.int pr)) (ev_ixN (ds := [2147483647, 2147483629, 2147483587, 2147483579, 2147483563].map PyData.int) (ev_lst (ds := [.int 2147483647, .int 2147483629, .int 2147483587, .int 2147483579, .int 2147483563]) (ea_cons ev_int (ea_cons ev_int (ea_cons ev_int (ea_cons ev_int (ea_1 ev_int)))))) (ev_mod (ev_ixL (ev_v 0 g4 rfl) hu4 (dl H4 a b (c + 1)) ev_int rfl) ev_int (by decide)) hpr) fun v5 σ5 H5 l5 _ g5 => ?_
    have g5' : Sg H5 σ5 [.v (.ref u), .d (.int (m : Int)), .x, .d (.int pr), .x] := g5
    have hu5 := l5.lst hu4
    have hcc : 0 ≤ (c + 1) * (c + 1) ∧ (c + 1) * (c + 1) ≤ 100001 * 100001 := ⟨Int.mul_nonneg (by omega) (by omega), Int.mul_le_mul (by omega) (by omega) (by omega) (by omega)⟩
    have hcc2 : 65537 * (c + 1) * (c + 1) = 65537 * ((c + 1) * (c + 1)) := Int.mul_assoc _ _ _
    refine s_set (T := T) cx 4 g5' (s := .d (.int ((b + 65537 * (c + 1) * (c + 1) + 43) ^ (3 : Int).toNat % pr))) (ev_mod (ev_pow (ev_add (ev_add (ev_ixL (ev_v 0 g5' rfl) hu5 (dl H5 a b (c + 1)) ev_int rfl) (ev_mul (ev_mul ev_int (ev_ixL (ev_v 0 g5' rfl) hu5 (dl H5 a b (c + 1)) ev_int rfl) (.inl ⟨by decide, by decide⟩)) (ev_ixL (ev_v 0 g5' rfl) hu5 (dl H5 a b (c + 1)) ev_int rfl) (.inr ⟨by omega, by omega⟩))) ev_int) ev_int ⟨by decide, by decide, by omega⟩) (ev_v 3 g5' rfl) hp0) fun v6 σ6 H6 l6 _ g6 => ?_
    generalize hx : (b + 65537 * (c + 1) * (c + 1) + 43) ^ (3 : Int).toNat % pr = mx at g6
    have hmx : 0 ≤ mx ∧ mx < 2 ^ 31 := by
      have h1 := Int.emod_nonneg ((b + 65537 * (c + 1) * (c + 1) + 43) ^ (3 : Int).toNat) (b := pr) (by omega)
      have h2 := Int.emod_lt_of_pos ((b + 65537 * (c + 1) * (c + 1) + 43) ^ (3 : Int).toNat) hp0
      rw [hx] at h1 h2
      omega
    have g6' : Sg H6 σ6 [.v (.ref u), .d (.int (m : Int)), .x, .d (.int pr), .d (.int mx)] := g6
    have hu6 := l6.lst hu5
    have hlast : ∀ z : Int, z % (m : Int) = ((z % m).toNat : Int) := fun z => by have := Int.emod_nonneg z (b := (m : Int)) (by omega); omega
    have hp1 : 0 ≤ mx % 10007 ∧ mx % 10007 < 10007 := ⟨Int.emod_nonneg _ (by decide), Int.emod_lt_of_pos _ (by decide)⟩
    refine s_retD (T := T) (d := .int (mx * (mx % 10007 + 83 * (c + 1)) % 2305843009213693921 / 101 % m)) (ev_mod (ev_fdiv (ev_mod (ev_mul (ev_v 4 g6' rfl) (ev_add (ev_mod (ev_v 4 g6' rfl) ev_int (by decide)) (ev_mul ev_int (ev_ixL (ev_v 0 g6' rfl) hu6 (dl H6 a b (c + 1)) ev_int rfl) (.inl ⟨by decide, by decide⟩))) (.inl ⟨by omega, by omega⟩)) ev_int (by decide)) ev_int ⟨by decide, by decide⟩) (ev_v 1 g6' rfl) (by omega)) fun v7 H7 l7 hv7 => q v7 (mx * (mx % 10007 + 83 * (c + 1)) % 2305843009213693921 / 101 % m).toNat H7 (lx.trans (.of (l5.trans (l6.trans l7)))) ⟨a, b, c + 1, l7.lst hu6, ha, hb, hb2, by omega, by omega⟩ (by rw [hlast] at hv7; exact hv7) ?_
    have := Int.emod_lt_of_pos (mx * (mx % 10007 + 83 * (c + 1)) % 2305843009213693921 / 101) (b := (m : Int)) (by omega)
    omega
end
end RF
set_option Elab.async false
set_option linter.all false
set_option maxRecDepth 100000
set_option maxHeartbeats 8000000
/-! the law's urn: made from a cell -/
namespace RF
open PySem PySem.Spec L2 LamX NdefX
open PyProof.Rows hiding St
open PySem.W (dataLe)

def CPowW (i j : Int) : Prop := 0 ≤ j ∧ (Builtin.Int.intBits i : Int) * j ≤ 2 ^ 27
theorem op_powW {X : Cx} : OpR X (binaryOp .Pow) (L2.rI CPowW fun i j => .int (i ^ j.toNat)) := opI fun _ _ _ _ _ _ _ hc q => pow_int hc.1 hc.2 q
section
variable {T : List (Addr × Str)} {X : Cx} {e a b o i : Expr} {es : List Expr} {σ : St} {H : Hp} {pos pos' p apos : Pos} {q : Addr} {xs : List V} {rest : List Stmt} {D : Ends}
theorem ev_powW {i j : Int} (ha : EvD T X a σ H (.int i)) (hb : EvD T X b σ H (.int j)) (hc : CPowW i j) : EvD T X (.BinOp a .Pow b pos) σ H (.int (i ^ j.toNat)) := ev_I (f := fun i j => i ^ j.toNat) (C := CPowW) op_powW ha hb hc
/-- a list of ints that is kept -/
def SqI (T : List (Addr × Str)) (K : PySem.W.Frag) (H : Hp) (a : Addr) (ns : List Int) : Prop := ∀ H', Le T H H' → SqL K H' a (ns.map V.int)
theorem SqI.le {K : PySem.W.Frag} {H H' : Hp} {a : Addr} {ns : List Int} (h : SqI T K H a ns) (l : Le T H H') : SqI T K H' a ns := fun H2 l2 => h H2 (l.trans l2)
theorem ev_lenS {r : Addr} {ns : List Int} (h : Ev T X a σ H (.v (.ref r))) (hs : SqI T X.K H r ns) (hm : X.mg "len" = none) (hg : Gl X "len" := by rfl) (hst : starEach [a] X.env = (false, eval a X.env) :: starEach [] X.env := by rfl) (hpl : (backTo pos (starEach [] X.env)).any (·.1) = false := by rfl) :
    EvD T X (.Call (.Name "len" p) [a] [] pos) σ H (.int (ns.length : Nat)) := fun H1 l Q q => by
  refine w_pe (pe_callB call_len hg hm PySem.boot_len (pa_cons pe_w pa_nil hst) (by decide) (by decide) hst hpl) (h H1 l _ fun v H2 l2 h2 => ?_)
  have h2' : some v = some (V.ref r) := h2
  cases h2'
  refine ⟨.ref r, (ns.map V.int).length, rfl, .inl ⟨_, hs H2 (l.trans l2), rfl⟩, q _ H2 l2 ⟨_, rfl, ?_⟩⟩
  rw [List.length_map]
  exact .int _
theorem ev_ixS {r : Addr} {ns : List Int} {k : Nat} {z : Int} (ha : Ev T X a σ H (.v (.ref r))) (hs : SqI T X.K H r ns) (hb : EvD T X b σ H (.int (k : Int))) (hi : ns[k]? = some z) (hp : PlainIx b := by exact fun _ _ => rfl) : EvD T X (.Subscript a b pos) σ H (.int z) := fun H1 l Q q => by
  refine w_pe (pe_ix ix_list pe_w pe_w hp) (ha H1 l _ fun v H2 l2 h2 => hb H2 (l.trans l2) _ fun w H3 l3 h3 => ?_)
  have h2' : some v = some (V.ref r) := h2
  cases h2'
  obtain ⟨_, e, h3⟩ := h3
  cases e
  obtain rfl := h3.inv_int
  refine ⟨r, ns.map V.int, k, .int z, rfl, rfl, hs H3 ((l.trans l2).trans l3), ?_, q _ H3 (l2.trans l3) ⟨_, rfl, .int _⟩⟩
  have : L2.atI (ns.map V.int) (k : Int) = (ns.map V.int)[k]? := by
    obtain ⟨hk, _⟩ := List.getElem?_eq_some_iff.mp hi
    unfold L2.atI ixN
    simp [hk]
  rw [this, List.getElem?_map, hi]
  rfl
theorem ev_abs {i : Int} (h : EvD T X a σ H (.int i)) (hm : X.mg "abs" = none) (hg : Gl X "abs" := by rfl) (hst : starEach [a] X.env = (false, eval a X.env) :: starEach [] X.env := by rfl) (hpl : (backTo pos (starEach [] X.env)).any (·.1) = false := by rfl) :
    EvD T X (.Call (.Name "abs" p) [a] [] pos) σ H (.int (if i < 0 then -i else i)) := fun H1 l Q q => by
  refine w_pe (pe_callB call_abs hg hm PyProof.Rows.boot_abs (pa_cons pe_w pa_nil hst) (by decide) (by decide) hst hpl) (h H1 l _ fun v H2 l2 h2 => ?_)
  obtain ⟨_, e, h2⟩ := h2
  cases e
  obtain rfl := h2.inv_int
  exact ⟨i, rfl, q _ H2 l2 ⟨_, rfl, .int _⟩⟩
end
section
variable {P : Program} {w : World} {K : PySem.W.Frag} {mg : Str → Option Value} {base : Heap} {T : List (Addr × Str)} {f : Addr} {fd : FuncData} {k : Nat}
def spUrn (T : List (Addr × Str)) (K : PySem.W.Frag) : Sp := fun vs H Q _ => ∃ (a : Addr) (ns : List Int) (m : Nat) (v2 : V), vs = [.ref a, v2] ∧ SqI T K H a ns ∧ Dt H v2 (.int (m : Int)) ∧ m ≤ 1000 ∧
  ∀ p H', H p = none → Le T H H' → UrnAt H' p 0 → Q (.ref p) H'
abbrev nUrn : List Str := ["_law_script", "_law_k", "_law_cell", "_law_own"]
theorem bits_1060 : Builtin.Int.intBits ((10 : Int) ^ (60 : Int).toNat) ≤ 200 := PySem.intBits_le_iff.mpr (by decide +kernel)
theorem ok_law_urn (M : Nm mg) (F : Fun K "_law_urn" "_law_urn" (topS 37) f fd) : FnOk P w K mg base CX0 (k + 1) f fd ["_law_script", "_law_k"] (spUrn T K) := by
  have S : FnScope nUrn ["_law_script", "_law_k"] (defScope (topS 37)) := ⟨rfl, rfl, rfl, by decide +kernel, rfl, by decide +kernel, by decide +kernel⟩
  refine fun_okW F S (fun vs H Q E h => ?_) fun X cdv A outer s H vs Q E e cx hr h => ?_
  · obtain ⟨u, n, m, v2, rfl, _⟩ := h
    rfl
  subst e
  obtain ⟨a, ns, m, v2, rfl, hs, h2, hm, q⟩ := h
  have g : Sg H (L2.start nUrn [.ref a, v2]) [.v (.ref a), .d (.int (m : Int)), .x, .x] := .cons rfl (.cons ⟨_, rfl, h2⟩ (.cons True.intro (.cons True.intro .nil)))
  refine s_set (T := T) cx 2 g (s := .d (.int (ns.getD m (19 * m + 6)))) ?_ fun v1 σ1 H1 l1 _ g1 => ?_
  · refine ev_if (EB.t (eb_lt (ev_v 1 g rfl) (ev_lenS (ev_v 0 g rfl) hs M.len))) (fun h => ?_) fun h => ?_
    · have h' : m < ns.length := by simpa using h
      refine ev_ixS (ev_v 0 g rfl) hs (ev_v 1 g rfl) ?_
      rw [List.getD_eq_getElem?_getD, List.getElem?_eq_getElem h']
      rfl
    · have h' : ns.length ≤ m := by simpa using h
      refine EvD.to (ev_add (ev_mul ev_int (ev_v 1 g rfl) (.inl ⟨by decide, by decide⟩)) ev_int) ?_
      rw [List.getD_eq_getElem?_getD, List.getElem?_eq_none h']
      rfl
  · generalize ns.getD m (19 * m + 6) = c at g1
    have g1' : Sg H1 σ1 [.v (.ref a), .d (.int (m : Int)), .d (.int c), .x] := g1
    have hab : 0 ≤ (if c < 0 then -c else c) := by split <;> omega
    generalize hy : (if c < 0 then -c else c) = y at hab
    have hp : (0 : Int) < ((10 : Int) ^ (60 : Int).toNat) ^ (5 : Int).toNat := by decide +kernel
    refine s_set (T := T) cx 3 g1' (s := .d (.int (y % (((10 : Int) ^ (60 : Int).toNat) ^ (5 : Int).toNat) * (if decide ((10 : Int) ^ (18 : Int).toNat ≤ y) then 1 else 0)))) ?_ fun v2 σ2 H2 l2 _ g2 => ?_
    · refine ev_mul (ev_mod (EvD.to (ev_abs (ev_v 2 g1' rfl) M.abs) (by rw [hy])) (ev_powW (ev_pow ev_int ev_int ⟨by decide, by decide, by decide⟩) ev_int ⟨by decide, ?_⟩) hp) (ev_intB (k := decide ((10 : Int) ^ (18 : Int).toNat ≤ y)) (EB.v (eb_ge (EvD.to (ev_abs (ev_v 2 g1' rfl) M.abs) (by rw [hy])) (ev_pow ev_int ev_int ⟨by decide, by decide, by decide⟩))) M.int) (.inr ?_)
      · have := bits_1060
        omega
      · split <;> exact ⟨by decide, by decide⟩
    · generalize hx : y % (((10 : Int) ^ (60 : Int).toNat) ^ (5 : Int).toNat) * (if decide ((10 : Int) ^ (18 : Int).toNat ≤ y) then 1 else 0) = x at g2
      have hx0 : 0 ≤ x := by
        rw [← hx]
        refine Int.mul_nonneg (Int.emod_nonneg _ (by omega)) ?_
        split <;> decide
      have g2' : Sg H2 σ2 [.v (.ref a), .d (.int (m : Int)), .d (.int c), .d (.int x)] := g2
      have hc1 : 0 ≤ c % 2305843009213693951 ∧ c % 2305843009213693951 < 2305843009213693951 := ⟨Int.emod_nonneg _ (by decide), Int.emod_lt_of_pos _ (by decide)⟩
      have hmm : (7027 : Int) * m * m = 7027 * (m * m) := Int.mul_assoc _ _ _
      have hm2 : 0 ≤ (m : Int) * m ∧ (m : Int) * m ≤ 1000 * 1000 := ⟨Int.mul_nonneg (by omega) (by omega), Int.mul_le_mul (by omega) (by omega) (by omega) (by omega)⟩
      refine s_retNew (T := T) (ds := [.int x, .int ((c % 2305843009213693951 * 48271 + 7027 * m * m + 29) % 2305843009213693907), .int 0]) ?_ fun p xs H3 hp l3 h3 hd => ?_
      · refine ev_lst (ds := [.int x, .int ((c % 2305843009213693951 * 48271 + 7027 * m * m + 29) % 2305843009213693907), .int 0]) (ea_cons (ev_v 3 g2' rfl) (ea_cons (ev_mod (ev_add (ev_add (ev_mul (ev_mod (ev_v 2 g2' rfl) ev_int (by decide)) ev_int (.inr ⟨by decide, by decide⟩)) (ev_mul (ev_mul ev_int (ev_v 1 g2' rfl) (.inl ⟨by decide, by decide⟩)) (ev_v 1 g2' rfl) (.inr ⟨by omega, by omega⟩))) ev_int) ev_int (by decide)) (ea_1 ev_int)))
      · have e3 : xs = [x, (c % 2305843009213693951 * 48271 + 7027 * m * m + 29) % 2305843009213693907, 0].map V.int := vals_int (bs := [x, (c % 2305843009213693951 * 48271 + 7027 * m * m + 29) % 2305843009213693907, 0]) hd
        subst e3
        refine q p H3 (l1.fr _ (l2.fr _ hp)) (l1.trans (l2.trans l3)) ⟨_, _, _, h3, hx0, Int.emod_nonneg _ (by decide), ?_, by omega, by omega⟩
        have := Int.emod_lt_of_pos (c % 2305843009213693951 * 48271 + 7027 * m * m + 29) (b := 2305843009213693907) (by decide)
        omega
end
end RF
set_option Elab.async false
set_option linter.all false
set_option maxRecDepth 100000
set_option maxHeartbeats 8000000
/-! the law's draws: of, box, instruction -/
namespace RF
open PySem PySem.Spec L2 LamX NdefX
open PyProof.Rows hiding St
open PySem.W (dataLe)

theorem UrnAt.up {H : Hp} {u : Addr} {n m : Nat} (h : UrnAt H u n) (l : n ≤ m) : UrnAt H u m := by
  obtain ⟨a, b, c, h1, h2, h3, h4, h5, h6⟩ := h
  exact ⟨a, b, c, h1, h2, h3, h4, h5, by omega⟩
theorem LeX.mutL {T : List (Addr × Str)} {W : Addr → Prop} {H H' : Hp} {p : Addr} {o : HO} {xs : List V} (a : LeX T W H H') (h : H p = none) (hl : H' p = some (.lst xs)) : LeX T W H (upd H' p o) where
  ex := fun b u n hb t => by
    rw [upd_ne (ne_of_none hb h)]
    exact a.ex b u n hb t
  tb := fun t => tabs_lst hl (a.tb t)
  fr := fun b hb => by
    by_cases e : b = p
    · rw [e]; exact h
    · rw [upd_ne e] at hb
      exact a.fr b hb
section
variable {T : List (Addr × Str)} {X : Cx} {e a b o i : Expr} {es : List Expr} {σ : St} {H : Hp} {pos pos' p apos : Pos} {q u : Addr} {xs : List V} {rest : List Stmt} {D : Ends} {Q : VK} {n m k : Nat}
theorem s_retW (h : wE X e σ H fun v H' => D.rt v H') : wSs X (.Return (some e) pos :: rest) D σ H := s_cons (w_ps (ps_ret pe_w) h)
theorem ss_two {H : Hp} {vs : List V} {a b : Sl} (h : SsOk H vs [a, b]) : ∃ x y, vs = [x, y] ∧ SlOk H (some x) a ∧ SlOk H (some y) b := by
  cases h with
  | cons q1 t =>
    cases t with
    | cons q2 t =>
      cases t
      exact ⟨_, _, rfl, q1, q2⟩
theorem sl_v {H : Hp} {x y : V} (h : SlOk H (some x) (.v y)) : x = y := by
  have h' : some x = some y := h
  cases h'
  rfl
theorem sl_d {H : Hp} {x : V} {d : PyData} (h : SlOk H (some x) (.d d)) : Dt H x d := by
  obtain ⟨_, e, h⟩ := h
  cases e
  exact h
abbrev CTk (P : Program) (w : World) (K : PySem.W.Frag) (mg : Str → Option Value) (base : Heap) (T : List (Addr × Str)) (k : Nat) := Cal P w K mg base k "_law_take" ["_law_urn_here", "_law_many"] (spTake T)
theorem w_take (C : CTk X.prog X.w X.K X.mg X.base T k) (hr : Room k X.A) (hu : UrnAt H u n) (hn : n ≤ 100000) (ha : Ev T X a σ H (.v (.ref u))) (hb : EvD T X b σ H (.int (m : Int))) (h0 : 0 < m) (h1 : m ≤ 1000)
    (hq : ∀ v (j : Nat) H', LeX T (At u) H H' → UrnAt H' u (n + 1) → Dt H' v (.int (j : Int)) → j < m → Q v H') (hg : Gl X "_law_take" := by rfl)
    (he : starEach [a, b] X.env = (false, eval a X.env) :: starEach [b] X.env := by rfl) (he2 : starEach [b] X.env = (false, eval b X.env) :: starEach [] X.env := by rfl) (hpl : (backTo pos (starEach [b] X.env)).any (·.1) = false := by rfl) :
    wE X (.Call (.Name "_law_take" p) [a, b] [] pos) σ H Q := by
  refine w_call (T := T) (ss := [.v (.ref u), .d (.int (m : Int))]) C hr (ea_cons ha (ea_1 hb he2) he) (fun vs H' l hv => ?_) hg (by decide) he hpl
  obtain ⟨x, y, rfl, q1, q2⟩ := ss_two hv
  obtain rfl := sl_v q1
  exact ⟨u, n, m, y, rfl, hu.le l, hn, sl_d q2, h0, h1, fun v j H2 lx => hq v j H2 ((LeX.of l).trans lx)⟩
/-- of -/
def spOf (T : List (Addr × Str)) : Sp := fun vs H Q _ => ∃ (u r : Addr) (n : Nat) (xs : List V), vs = [.ref u, .ref r] ∧ UrnAt H u n ∧ n ≤ 100000 ∧ H r = some (.lst xs) ∧ 0 < xs.length ∧ xs.length ≤ 1000 ∧ r ≠ u ∧
  ∀ v H', LeX T (At u) H H' → UrnAt H' u (n + 1) → v ∈ xs → Q v H'
theorem atI_natV {xs : List V} {j : Nat} (h : j < xs.length) : L2.atI xs (j : Int) = some xs[j] := atI_nat (List.getElem?_eq_getElem h)
abbrev COf (P : Program) (w : World) (K : PySem.W.Frag) (mg : Str → Option Value) (base : Heap) (T : List (Addr × Str)) (k : Nat) := Cal P w K mg base k "_law_of" ["_law_urn_here", "_law_some"] (spOf T)
theorem w_ofL {r : Addr} (C : COf X.prog X.w X.K X.mg X.base T k) (hr : Room k X.A) (hu : UrnAt H u n) (hn : n ≤ 100000) (ha : Ev T X a σ H (.v (.ref u))) (hb : Ev T X b σ H (.v (.ref r))) (hx : H r = some (.lst xs)) (h0 : 0 < xs.length) (h1 : xs.length ≤ 1000) (hne : r ≠ u)
    (hq : ∀ v H', LeX T (At u) H H' → UrnAt H' u (n + 1) → v ∈ xs → Q v H') (hg : Gl X "_law_of" := by rfl)
    (he : starEach [a, b] X.env = (false, eval a X.env) :: starEach [b] X.env := by rfl) (he2 : starEach [b] X.env = (false, eval b X.env) :: starEach [] X.env := by rfl) (hpl : (backTo pos (starEach [b] X.env)).any (·.1) = false := by rfl) :
    wE X (.Call (.Name "_law_of" p) [a, b] [] pos) σ H Q := by
  refine w_call (T := T) (ss := [.v (.ref u), .v (.ref r)]) C hr (ea_cons ha (ea_1 hb he2) he) (fun vs H' l hv => ?_) hg (by decide) he hpl
  obtain ⟨x, y, rfl, q1, q2⟩ := ss_two hv
  obtain rfl := sl_v q1
  obtain rfl := sl_v q2
  exact ⟨u, r, n, xs, rfl, hu.le l, hn, l.lst hx, h0, h1, hne, fun v H2 lx => hq v H2 ((LeX.of l).trans lx)⟩
theorem DtL.mem {H : Hp} : ∀ {vs : List V} {ds : List PyData} {v : V}, DtL H vs ds → v ∈ vs → ∃ d ∈ ds, Dt H v d
  | _, _, _, .cons h t, hv => by
    rcases List.mem_cons.mp hv with e | e
    · exact ⟨_, List.mem_cons_self, e ▸ h⟩
    · obtain ⟨d, h1, h2⟩ := t.mem e
      exact ⟨d, List.mem_cons_of_mem _ h1, h2⟩
/-- of a list just made -/
theorem w_ofN {ds : List PyData} (C : COf X.prog X.w X.K X.mg X.base T k) (hr : Room k X.A) (hu : UrnAt H u n) (hn : n ≤ 100000) (ha : Ev T X a σ H (.v (.ref u))) (hb : EvL T X b σ H ds) (h0 : 0 < ds.length) (h1 : ds.length ≤ 1000)
    (hq : ∀ v d H', LeX T (At u) H H' → UrnAt H' u (n + 1) → d ∈ ds → Dt H' v d → Q v H') (hg : Gl X "_law_of" := by rfl)
    (he : starEach [a, b] X.env = (false, eval a X.env) :: starEach [b] X.env := by rfl) (he2 : starEach [b] X.env = (false, eval b X.env) :: starEach [] X.env := by rfl) (hpl : (backTo pos (starEach [b] X.env)).any (·.1) = false := by rfl) :
    wE X (.Call (.Name "_law_of" p) [a, b] [] pos) σ H Q := by
  obtain ⟨f, fd, F, hm, hk, hb'⟩ := C.ex
  refine w_pe (pe_call F hr hg hm hk hb' .nil pass0 (pa_cons pe_w (pa_cons pe_w pa_nil he2) he) (by decide) he hpl) (ha H (.refl H) _ fun v1 H1 l1 q1 => hb H1 l1 _ fun r xs H2 hn2 l2 hx hd => ?_)
  obtain rfl := sl_v q1
  have hu2 := (hu.le l1).le l2
  have hl := hd.len
  refine ⟨u, r, n, xs, rfl, hu2, hn, hx, by omega, by omega, fun z => ?_, fun v H3 lx hu3 hv => ?_⟩
  · obtain ⟨_, _, _, h3, _⟩ := hu.le l1
    rw [z, h3] at hn2
    cases hn2
  · obtain ⟨d, d1, d2⟩ := hd.mem hv
    exact hq v d H3 ((LeX.of (l1.trans l2)).trans lx) hu3 d1 (d2.mono (hu2.tk lx))
end
section
variable {P : Program} {w : World} {K : PySem.W.Frag} {mg : Str → Option Value} {base : Heap} {T : List (Addr × Str)} {f : Addr} {fd : FuncData} {k : Nat}
theorem ok_law_of (M : Nm mg) (F : Fun K "_law_of" "_law_of" (topS 39) f fd) (C1 : CTk P w K mg base T k) : FnOk P w K mg base CX0 (k + 1) f fd ["_law_urn_here", "_law_some"] (spOf T) := by
  have S : FnScope ["_law_urn_here", "_law_some"] ["_law_urn_here", "_law_some"] (defScope (topS 39)) := ⟨rfl, rfl, rfl, by decide +kernel, rfl, by decide +kernel, by decide +kernel⟩
  refine fun_okW F S (fun vs H Q E h => ?_) fun X cdv A outer s H vs Q E e cx hr h => ?_
  · obtain ⟨u, r, n, xs, rfl, _⟩ := h
    rfl
  subst e
  obtain ⟨u, r, n, xs, rfl, hu, hn, hx, h0, h1, hne, q⟩ := h
  have g : Sg H (L2.start ["_law_urn_here", "_law_some"] [.ref u, .ref r]) [.v (.ref u), .v (.ref r)] := .cons rfl (.cons rfl .nil)
  refine s_retW (w_pe (pe_ix ix_list pe_w pe_w (fun _ _ => rfl)) ?_)
  refine Ev.app (T := T) (ev_v 1 g rfl) (.refl _) fun v1 H1 l1 q1 => ?_
  obtain rfl := sl_v q1
  refine w_take (T := T) (n := n) (m := xs.length) C1 hr (hu.le l1) hn (ev_v 0 (g.mono l1.tk) rfl) (ev_lenL (ev_v 1 (g.mono l1.tk) rfl) (l1.lst hx) M.len) h0 h1 fun v j H2 lx hu2 hv hj => ?_
  obtain rfl := hv.inv_int
  exact ⟨r, xs, j, xs[j], rfl, rfl, SqL.of (lx.lst hne (l1.lst hx)), atI_natV hj, q _ H2 ((LeX.of l1).trans lx) hu2 (List.getElem_mem hj)⟩
/-! box -/
def IsBox (wd : Str) (room : Int) : Prop := (wd = "line" ∨ wd = "lanes") ∧ 1 ≤ room ∧ room ≤ 16
def spBox (T : List (Addr × Str)) : Sp := fun vs H Q _ => ∃ (u : Addr) (n : Nat), vs = [.ref u] ∧ UrnAt H u n ∧ n ≤ 99998 ∧ ∀ v wd room H', LeX T (At u) H H' → UrnAt H' u (n + 2) → IsBox wd room → Dt H' v (encBuf wd room) → Q v H'
theorem ok_law_box (F : Fun K "_law_box" "_law_box" (topS 43) f fd) (C1 : COf P w K mg base T k) : FnOk P w K mg base CX0 (k + 1) f fd ["_law_urn_here"] (spBox T) := by
  have S : FnScope ["_law_urn_here"] ["_law_urn_here"] (defScope (topS 43)) := ⟨rfl, rfl, rfl, by decide +kernel, rfl, by decide +kernel, by decide +kernel⟩
  refine fun_okW F S (fun vs H Q E h => ?_) fun X cdv A outer s H vs Q E e cx hr h => ?_
  · obtain ⟨u, n, rfl, _⟩ := h
    rfl
  subst e
  obtain ⟨u, n, rfl, hu, hn, q⟩ := h
  have g : Sg H (L2.start ["_law_urn_here"] [.ref u]) [.v (.ref u)] := .cons rfl .nil
  refine s_retW (w_pe (pe_tup (pa_cons pe_w (pa_cons pe_w pa_nil))) ?_)
  refine w_ofN (T := T) (n := n) (ds := [.str "line", .str "lanes"]) C1 hr hu (by omega) (ev_v 0 g rfl) (ev_lst (ds := [.str "line", .str "lanes"]) (ea_cons ev_str (ea_1 ev_str))) (by decide) (by decide) fun v1 d1 H1 lx1 hu1 hm1 hv1 => ?_
  have g1 := g.mono (hu.tk lx1)
  refine w_ofN (T := T) (n := n + 1) (ds := [.int 1, .int 2, .int 3, .int 4, .int 16]) C1 hr hu1 (by omega) (ev_v 0 g1 rfl) (ev_lst (ds := [.int 1, .int 2, .int 3, .int 4, .int 16]) (ea_cons ev_int (ea_cons ev_int (ea_cons ev_int (ea_cons ev_int (ea_1 ev_int)))))) (by decide) (by decide) fun v2 d2 H2 lx2 hu2 hm2 hv2 => ⟨Nat.le_of_ble_eq_true rfl, fun p hp => ?_⟩
  have tk2 : Tk H1 H2 := hu1.tk lx2
  have l3 : Le T H2 (upd H2 p (.tup [v1, v2])) := .new hp
  have hwd : ∃ wd : Str, d1 = .str wd ∧ (wd = "line" ∨ wd = "lanes") := by
    rcases List.mem_cons.mp hm1 with z | z
    · exact ⟨_, z, .inl rfl⟩
    · exact ⟨_, List.mem_singleton.mp z, .inr rfl⟩
  obtain ⟨wd, rfl, hwd⟩ := hwd
  have hrm : ∃ r : Int, d2 = .int r ∧ 1 ≤ r ∧ r ≤ 16 := by
    simp only [List.mem_cons, List.not_mem_nil, or_false] at hm2
    rcases hm2 with z | z | z | z | z <;> exact ⟨_, z, by decide, by decide⟩
  obtain ⟨rm, rfl, hrm⟩ := hrm
  exact q _ wd rm _ ((lx1.trans lx2).trans (.of l3)) (hu2.le l3) ⟨hwd, hrm⟩ (.tup upd_same (.cons ((hv1.mono tk2).mono l3.tk) (.cons (hv2.mono l3.tk) .nil)))
/-! instruction -/
def spInst (T : List (Addr × Str)) : Sp := fun vs H Q _ => ∃ (u r : Addr) (n : Nat) (ys : List Str), vs = [.ref u, .ref r] ∧ UrnAt H u n ∧ n ≤ 99998 ∧ H r = some (.lst (ys.map V.str)) ∧ 0 < ys.length ∧ ys.length ≤ 1000 ∧ r ≠ u ∧
  ∀ v (i : Ins) H', LeX T (At u) H H' → UrnAt H' u (n + 2) → Dt H' v (encI i) → (∀ x, i.var? = some x → x ∈ ys) → Q v H'
abbrev nIn : List Str := ["_law_urn_here", "_law_names_here", "_law_sort_of"]
theorem ok_law_instruction (M : Nm mg) (F : Fun K "_law_instruction" "_law_instruction" (topS 41) f fd) (C0 : CTk P w K mg base T k) (C1 : COf P w K mg base T k) : FnOk P w K mg base CX0 (k + 1) f fd ["_law_urn_here", "_law_names_here"] (spInst T) := by
  have S : FnScope nIn ["_law_urn_here", "_law_names_here"] (defScope (topS 41)) := ⟨rfl, rfl, rfl, by decide +kernel, rfl, by decide +kernel, by decide +kernel⟩
  refine fun_okW F S (fun vs H Q E h => ?_) fun X cdv A outer s H vs Q E e cx hr h => ?_
  · obtain ⟨u, r, n, ys, rfl, _⟩ := h
    rfl
  subst e
  obtain ⟨u, r, n, ys, rfl, hu, hn, hx, h0, h1, hne, q⟩ := h
  have g : Sg H (L2.start nIn [.ref u, .ref r]) [.v (.ref u), .v (.ref r), .x] := .cons rfl (.cons rfl (.cons True.intro .nil))
  refine s_setG cx 2 (w_take (T := T) (n := n) (m := 12) C0 hr hu (by omega) (ev_v 0 g rfl) ev_int (by decide) (by decide) fun v j H1 lx1 hu1 hv hj => ?_)
  have g1 : Sg H1 ((L2.start nIn [.ref u, .ref r]).set 2 (some v)) [.v (.ref u), .v (.ref r), .d (.int (j : Int))] := (g.mono (hu.tk lx1)).set (s := .d (.int (j : Int))) ⟨v, rfl, hv⟩ 2
  have hx1 := lx1.lst hne hx
  refine s_if0 (T := T) (eb_eqI (ev_v 2 g1 rfl) ev_int) (fun h H2 l2 => ?_) fun h H2 l2 => ?_
  · refine s_retD (T := T) (ev_tup (ds := [.str kFe]) (ea_1 ev_str)) fun v H3 l3 hv => q v .fe H3 (lx1.trans (.of (l2.trans l3))) (((hu1.le l2).le l3).up (by omega)) hv fun x hx => by cases hx
  · have g2 := g1.mono l2.tk
    refine s_retW (w_pe (pe_tup (pa_cons pe_w (pa_cons pe_w pa_nil))) ?_)
    obtain ⟨kd, hkd, hk3⟩ : ∃ kd : Str, L2.atI ([kSt, kLd, kSw].map PyData.str) ((if decide ((4 : Int) < (j : Int)) then 1 else 0) + (if decide ((9 : Int) < (j : Int)) then 1 else 0)) = some (.str kd) ∧ (kd = kSt ∨ kd = kLd ∨ kd = kSw) := by
      by_cases h4 : (4 : Int) < (j : Int)
      · by_cases h9 : (9 : Int) < (j : Int)
        · simp only [h4, h9, decide_true, if_true]
          exact ⟨kSw, rfl, .inr (.inr rfl)⟩
        · simp only [h4, h9, decide_true, decide_false, if_true]
          exact ⟨kLd, rfl, .inr (.inl rfl)⟩
      · have h9 : ¬ (9 : Int) < (j : Int) := by omega
        simp only [h4, h9, decide_false]
        exact ⟨kSt, rfl, .inl rfl⟩
    refine Ev.app (T := T) (ev_ixN (ds := [kSt, kLd, kSw].map PyData.str) (ev_lst (ds := [.str kSt, .str kLd, .str kSw]) (ea_cons ev_str (ea_cons ev_str (ea_1 ev_str)))) (ev_add (ev_intB (EB.v (eb_gt (ev_v 2 g2 rfl) ev_int)) M.int) (ev_intB (EB.v (eb_gt (ev_v 2 g2 rfl) ev_int)) M.int)) hkd) (.refl _) fun v1 H3 l3 hv1 => ?_
    have hv1 := sl_d hv1
    have g3 := g2.mono l3.tk
    have hu3 := (hu1.le l2).le l3
    refine w_ofL (T := T) (n := n + 1) (xs := ys.map V.str) C1 hr hu3 (by omega) (ev_v 0 g3 rfl) (ev_v 1 g3 rfl) (l3.lst (l2.lst hx1)) (by rw [List.length_map]; exact h0) (by rw [List.length_map]; exact h1) hne fun v2 H4 lx4 hu4 hv2 => ⟨Nat.le_of_ble_eq_true rfl, fun p hp => ?_⟩
    obtain ⟨x, hx, rfl⟩ := List.mem_map.mp hv2
    have l5 : Le T H4 (upd H4 p (.tup [v1, .str x])) := .new hp
    have hd : ∀ d, Dt H3 v1 (.str d) → Dt (upd H4 p (.tup [v1, .str x])) (.ref p) (.tuple [.str d, .str x]) := fun d hd => .tup upd_same (.cons ((hd.mono (hu3.tk lx4)).mono l5.tk) (.cons (.str x) .nil))
    have lx : LeX T (At u) H (upd H4 p (.tup [v1, .str x])) := (lx1.trans (.of (l2.trans l3))).trans (lx4.trans (.of l5))
    rcases hk3 with e | e | e <;> subst e
    · exact q _ (.st x) _ lx (hu4.le l5) (hd _ hv1) fun y hy => by cases hy; exact hx
    · exact q _ (.ld x) _ lx (hu4.le l5) (hd _ hv1) fun y hy => by cases hy; exact hx
    · exact q _ (.sw x) _ lx (hu4.le l5) (hd _ hv1) fun y hy => by cases hy; exact hx
end
end RF
set_option Elab.async false
set_option linter.all false
set_option maxRecDepth 100000
set_option maxHeartbeats 8000000
/-! the law's draws: names -/
namespace RF
open PySem PySem.Spec L2 LamX NdefX
open PyProof.Rows hiding St
open PySem.W (dataLe)

section
variable {T : List (Addr × Str)} {X : Cx} {e a b o i : Expr} {es : List Expr} {σ : St} {H : Hp} {δ : List Sl} {pos pos' p p2 p3 apos : Pos} {q u : Addr} {xs : List V} {rest : List Stmt} {D : Ends} {Q : VK} {n m k : Nat}
/-- l.append(e), whatever e does -/
theorem s_appendW (ho : Ev T X o σ H (.v (.ref q))) (hq : H q = some (.lst xs))
    (he : ∀ H1, Le T H H1 → wE X e σ H1 fun v H2 => ∃ ys, H2 q = some (.lst ys) ∧ ys.length < 100000 ∧ wSs X rest D σ (upd H2 q (.lst (ys ++ [v]))))
    (hbm : PE X (.Call (.Attribute o "append" p2) [e] [] p3) (tBM X.K "list" rAppend (wE X o) (wA X [e])) := by exact pe_bm PySem.F.plainAttrs_list PySem.F.slot_list_append PySem.F.type_list_append mt_append pe_w pa_w)
    (hst : starEach [e] X.env = (false, eval e X.env) :: starEach [] X.env := by rfl) (hs : swapsWith (.Call (.Attribute o "append" p2) [e] [] p3) none pos.line X.env = pure false := by rfl) :
    wSs X (.Expr (.Call (.Attribute o "append" p2) [e] [] p3) pos :: rest) D σ H := by
  refine s_cons (w_ps (ps_expr hbm hs) ?_)
  refine ho H (.refl H) _ fun v H2 l2 h2 => ?_
  obtain rfl := sl_v h2
  refine ⟨.inl ⟨rfl, xs, SqL.of (l2.lst hq)⟩, ?_⟩
  refine w_pa (pa_cons pe_w pa_nil hst) ((he H2 l2).imp fun v H3 h3 => ?_)
  obtain ⟨ys, h4, h5, h6⟩ := h3
  exact ⟨q, ys, v, rfl, rfl, h4, Nat.lt_of_lt_of_le h5 (by decide), h6⟩
/-- l.pop(e), whatever e does -/
theorem w_popAt (ho : Ev T X o σ H (.v (.ref q))) (hq : H q = some (.lst xs))
    (he : ∀ H1, Le T H H1 → wE X e σ H1 fun v H2 => ∃ (ys : List V) (j : Nat) (y : V), v = .int (j : Int) ∧ H2 q = some (.lst ys) ∧ ys[j]? = some y ∧ ys.length < 100000 ∧ Q y (upd H2 q (.lst (ys.eraseIdx j))))
    (hbm : PE X (.Call (.Attribute o "pop" p2) [e] [] p3) (tBM X.K "list" rPopAt (wE X o) (wA X [e])) := by exact pe_bm PySem.F.plainAttrs_list PySem.F.slot_list_pop PySem.F.type_list_pop mt_popAt pe_w pa_w)
    (hst : starEach [e] X.env = (false, eval e X.env) :: starEach [] X.env := by rfl) :
    wE X (.Call (.Attribute o "pop" p2) [e] [] p3) σ H Q := by
  refine w_pe hbm ?_
  refine ho H (.refl H) _ fun v H2 l2 h2 => ?_
  obtain rfl := sl_v h2
  refine ⟨.inl ⟨rfl, xs, SqL.of (l2.lst hq)⟩, ?_⟩
  refine w_pa (pa_cons pe_w pa_nil hst) ((he H2 l2).imp fun v H3 h3 => ?_)
  obtain ⟨ys, j, y, rfl, h4, h5, h7, h6⟩ := h3
  have hj := (List.getElem?_eq_some_iff.mp h5).1
  exact ⟨q, ys, j, j, y, rfl, rfl, h4, by omega, by omega, by rw [PySem.seqIndex_of (by omega) (by omega)]; rfl, h5, h6⟩
/-- x, y = [..], [..] -/
theorem s_parL (c : Fx X) (i j : Nat) (g : Sg H σ δ) {x y : Str} {a b : Expr} {px py pt : Pos} {kt k2 : Nat} {pt2 : Pos} {d1 d2 : List PyData} (ha : EvL T X a σ H d1) (hb : EvL T X b σ H d2)
    (k : ∀ p1 p2 xs ys σ' H', H p1 = none → H p2 = none → p1 ≠ p2 → Le T H H' → H' p1 = some (.lst xs) → DtL H' xs d1 → H' p2 = some (.lst ys) → DtL H' ys d2 → Sg H' σ' ((δ.set i (.v (.ref p1))).set j (.v (.ref p2))) → wSs X rest D σ' H') (hij : i ≠ j := by decide) (hi : X.N[i]? = some x := by rfl) (hj : X.N[j]? = some y := by rfl) (hx : X.env.scope.names.lookup x = some .local := by rfl) (hy : X.env.scope.names.lookup y = some .local := by rfl)
    (hw : swappedStores [.Tuple [.Name x px, .Name y py] kt pt] (.Tuple [a, b] k2 pt2) X.env = pure (some [x, y]) := by rfl) (hs : swapsWithSole [.Tuple [.Name x px, .Name y py] kt pt] (.Tuple [a, b] k2 pt2) pos.line X.env = pure false := by rfl)
    (h1 : starEach [a, b] X.env = (false, eval a X.env) :: starEach [b] X.env := by rfl) (h2 : starEach [b] X.env = (false, eval b X.env) :: starEach [] X.env := by rfl) :
    wSs X (.Assign [.Tuple [.Name x px, .Name y py] kt pt] (.Tuple [a, b] k2 pt2) pos :: rest) D σ H := by
  refine s_cons (w_ps (ps_par c.calm c.nd hi hj hij hx hy pa_w hw hs) (w_pa (pa_cons pe_w (pa_cons pe_w pa_nil h2) h1) ?_))
  refine ha H (.refl H) _ fun p1 xs H1 n1 l1 g1 e1 => hb H1 l1 _ fun p2 ys H2 n2 l2 g2 e2 => ?_
  exact ⟨_, _, rfl, k p1 p2 xs ys _ H2 n1 (l1.fr _ n2) (fun z => by rw [← z, g1] at n2; cases n2) (l1.trans l2) (l2.lst g1) (e1.mono l2.tk) g2 e2 (((g.mono (l1.trans l2).tk).set (s := .v (.ref p1)) rfl i).set (s := .v (.ref p2)) rfl j)⟩
theorem map_erase {α β : Type} (f : α → β) : ∀ (l : List α) (j : Nat), (l.map f).eraseIdx j = (l.eraseIdx j).map f
  | [], _ => rfl
  | _ :: _, 0 => rfl
  | a :: l, j + 1 => by simp [map_erase f l j]
theorem dtl_str (H : Hp) : ∀ bs : List Str, DtL H (bs.map V.str) (bs.map .str)
  | [] => .nil
  | b :: bs => .cons (.str b) (dtl_str H bs)
end
section
variable {P : Program} {w : World} {K : PySem.W.Frag} {mg : Str → Option Value} {base : Heap} {T : List (Addr × Str)} {f : Addr} {fd : FuncData} {k : Nat}
abbrev pool : List Str := ["x", "y", "z", "ab", "flag", "head", "q", "aaaa"]
def spNames (T : List (Addr × Str)) : Sp := fun vs H Q _ => ∃ (u : Addr) (n m : Nat) (v2 : V), vs = [.ref u, v2] ∧ UrnAt H u n ∧ n ≤ 99000 ∧ Dt H v2 (.int (m : Int)) ∧ m ≤ 8 ∧
  ∀ r (ys : List Str) H', H r = none → LeX T (At u) H H' → UrnAt H' u (n + m) → H' r = some (.lst (ys.map V.str)) → ys.length = m → (∀ y ∈ ys, y ∈ pool) → Q (.ref r) H'
abbrev nNm : List Str := ["_law_urn_here", "_law_many", "_law_left", "_law_found"]
theorem ok_law_names (M : Nm mg) (F : Fun K "_law_names" "_law_names" (topS 40) f fd) (C0 : CTk P w K mg base T k) : FnOk P w K mg base CX0 (k + 1) f fd ["_law_urn_here", "_law_many"] (spNames T) := by
  have S : FnScope nNm ["_law_urn_here", "_law_many"] (defScope (topS 40)) := ⟨rfl, rfl, rfl, by decide +kernel, rfl, by decide +kernel, by decide +kernel⟩
  refine fun_okW F S (fun vs H Q E h => ?_) fun X cdv A outer s H vs Q E e cx hr h => ?_
  · obtain ⟨u, n, m, v2, rfl, _⟩ := h
    rfl
  subst e
  obtain ⟨u, n, m, v2, rfl, hu, hn, h2, hm, q⟩ := h
  have g : Sg H (L2.start nNm [.ref u, v2]) [.v (.ref u), .d (.int (m : Int)), .x, .x] := .cons rfl (.cons ⟨_, rfl, h2⟩ (.cons True.intro (.cons True.intro .nil)))
  have hun : ∀ r, H r = none → r ≠ u := fun r hr z => by
    obtain ⟨_, _, _, h3, _⟩ := hu
    rw [z, h3] at hr
    cases hr
  refine s_parL (T := T) cx 2 3 g (d1 := pool.map .str) (d2 := []) (ev_lst (ds := pool.map .str) (ea_cons ev_str (ea_cons ev_str (ea_cons ev_str (ea_cons ev_str (ea_cons ev_str (ea_cons ev_str (ea_cons ev_str (ea_1 ev_str))))))))) (ev_lst (ds := []) ea_nil) fun pl pf xs ys σ1 H1 n1 n2 ne l1 hx dx hy dy g1 => ?_
  obtain rfl := vals_str dx
  cases dy
  have nlu := hun pl n1
  have nfu := hun pf n2
  refine s_while (T := T) cx (fun mm σ' H' => ∃ ls fs : List Str, mm = m - fs.length ∧ fs.length ≤ m ∧ ls.length + fs.length = 8 ∧ Sg H' σ' [.v (.ref u), .d (.int (m : Int)), .v (.ref pl), .v (.ref pf)] ∧ LeX T (At u) H H' ∧ UrnAt H' u (n + fs.length) ∧
      H' pl = some (.lst (ls.map V.str)) ∧ H' pf = some (.lst (fs.map V.str)) ∧ (∀ y ∈ ls, y ∈ pool) ∧ (∀ y ∈ fs, y ∈ pool)) m ⟨pool, [], rfl, Nat.zero_le _, rfl, g1, .of l1, (hu.le l1), hx, hy, fun _ h => h, fun _ h => by cases h⟩ fun mm σ' H' w0 => ?_
  obtain ⟨ls, fs, rfl, hfm, hsum, g2, lx2, hu2, hl2, hf2, pl2, pf2⟩ := w0
  refine ⟨_, EB.t (eb_lt (ev_lenL (ev_v 3 g2 rfl) hf2 M.len) (ev_v 1 g2 rfl)), fun hb H3 l3 => ?_, fun hb H3 l3 => ?_⟩
  · have hlt : fs.length < m := by
      have := of_decide_eq_true hb
      rw [List.length_map] at this
      omega
    have g3 := g2.mono l3.tk
    refine s_appendW (T := T) (q := pf) (ev_v 3 g3 rfl) (l3.lst hf2) fun H4 l4 => ?_
    have g4 := g3.mono l4.tk
    refine w_popAt (T := T) (q := pl) (ev_v 2 g4 rfl) (l4.lst (l3.lst hl2)) fun H5 l5 => ?_
    have g5 := g4.mono l5.tk
    have l35 := l3.trans (l4.trans l5)
    have hl5 := l35.lst hl2
    refine w_take (T := T) (n := n + fs.length) (m := ls.length) C0 hr (hu2.le l35) (by omega) (ev_v 0 g5 rfl) (EvD.to (ev_lenL (ev_v 2 g5 rfl) hl5 M.len) (by rw [List.length_map])) (by omega) (by omega) fun v j H6 lx6 hu6 hv hj => ?_
    obtain rfl := hv.inv_int
    have hl6 := lx6.lst nlu hl5
    have hf6 := lx6.lst nfu (l35.lst hf2)
    have hj' : ls[j]? = some ls[j] := List.getElem?_eq_getElem hj
    refine ⟨ls.map V.str, j, .str ls[j], rfl, hl6, by rw [List.getElem?_map, hj']; rfl, by rw [List.length_map]; omega, ?_⟩
    refine ⟨fs.map V.str, by rw [upd_ne (Ne.symm ne)]; exact hf6, by rw [List.length_map]; omega, ?_⟩
    have lx7 : LeX T (At u) H (upd (upd H6 pl (.lst ((ls.map V.str).eraseIdx j))) pf (.lst (fs.map V.str ++ [V.str ls[j]]))) :=
      ((((lx2.trans (.of l35)).trans lx6).mutL n1 hl6)).mutL n2 (by rw [upd_ne (Ne.symm ne)]; exact hf6)
    have tk7 : Tk H6 (upd (upd H6 pl (.lst ((ls.map V.str).eraseIdx j))) pf (.lst (fs.map V.str ++ [V.str ls[j]]))) :=
      (tk_lst hl6).trans (tk_lst (by rw [upd_ne (Ne.symm ne)]; exact hf6))
    refine s_nil ⟨m - (fs.length + 1), by omega, ls.eraseIdx j, fs ++ [ls[j]], by rw [List.length_append]; rfl, by rw [List.length_append]; exact hlt, ?_, (g5.mono ((hu2.le l35).tk lx6)).mono tk7, lx7, ?_, ?_, ?_, fun y hy => pl2 y ((List.eraseIdx_sublist _ _).subset hy), fun y hy => ?_⟩
    · rw [List.length_append, List.length_eraseIdx_of_lt hj, List.length_singleton]
      omega
    · obtain ⟨a, b, c, h3, h4⟩ := hu6
      refine ⟨a, b, c, by rw [upd_ne (Ne.symm nfu), upd_ne (Ne.symm nlu)]; exact h3, ?_⟩
      rw [List.length_append, List.length_singleton]
      exact h4
    · rw [upd_ne ne, upd_same, map_erase]
    · rw [upd_same, List.map_append]
      rfl
    · rcases List.mem_append.mp hy with h | h
      · exact pf2 y h
      · rw [List.mem_singleton.mp h]
        exact pl2 _ (List.getElem_mem hj)
  · have hlt : fs.length = m := by
      have := of_decide_eq_false hb
      rw [List.length_map] at this
      omega
    refine s_retL (T := T) (ev_v 3 (g2.mono l3.tk) rfl) (l3.lst hf2) fun H4 l4 hf4 => q pf fs H4 n2 (lx2.trans (.of (l3.trans l4))) ?_ hf4 hlt pf2
    rw [hlt] at hu2
    exact (hu2.le l3).le l4
end
end RF
set_option Elab.async false
set_option linter.all false
set_option maxRecDepth 100000
set_option maxHeartbeats 8000000
/-! comprehensions over values that stand, with elements that are new lists -/
namespace RF
open PySem PySem.Spec L2 LamX NdefX
open PyProof.Rows hiding St
open PySem.W (dataLe)

structure WalkV (T : List (Addr × Str)) (J : It) (H2 : Hp) (L : List V) : Prop where
  go : ∀ H' i v, Le T H2 H' → L[i]? = some v → J.go i H' ∧ ∀ w H'', J.yld i H' w H'' → H'' = H' ∧ w = v
  stop : ∀ H' i, Le T H2 H' → L.length ≤ i → J.stop i H'
section
variable {T : List (Addr × Str)} {X : Cx} {e a b o i elt iter : Expr} {es : List Expr} {σ : St} {H H1 H2 : Hp} {δ : List Sl} {pos pos' p p2 p3 apos : Pos} {q u : Addr} {xs : List V} {rest : List Stmt} {D : Ends} {Q : VK} {n m k : Nat} {K : PySem.W.Frag} {scope : Scope}
theorem wv_tup {a : Addr} (h : H2 a = some (.tup xs)) : WalkV T (Itt K a) H2 xs where
  go := fun H' i v l hv => by
    have hs : SqT K H' a xs := SqT.of (l.tk _ _ h)
    refine ⟨⟨xs, v, hs, hv⟩, fun w H'' y => ?_⟩
    obtain ⟨rfl, y2⟩ := y
    have := y2 xs hs
    rw [hv] at this
    cases this
    exact ⟨rfl, rfl⟩
  stop := fun H' i l hi => ⟨xs, SqT.of (l.tk _ _ h), hi⟩
theorem wv_lst {a : Addr} (h : H2 a = some (.lst xs)) : WalkV T (Itl K a) H2 xs where
  go := fun H' i v l hv => by
    have hs : SqL K H' a xs := SqL.of (l.lst h)
    refine ⟨⟨xs, v, hs, hv⟩, fun w H'' y => ?_⟩
    obtain ⟨rfl, y2⟩ := y
    have := y2 xs hs
    rw [hv] at this
    cases this
    exact ⟨rfl, rfl⟩
  stop := fun H' i l hi => ⟨xs, SqL.of (l.lst h), hi⟩
theorem lc_turns {x : Str} {L : List V} {J : It} (c : Fx X) (j : Nat) (wk : WalkV T J H1 L) (hl : L.length ≤ 100000) (g : Sg H1 σ δ) (Ψ : Addr → V → V → Hp → Prop)
    (m1 : ∀ D v w H' H'', Ψ D v w H' → Le T H' H'' → Ψ D v w H'') (m2 : ∀ D v w H' xs ys, Ψ D v w H' → H' D = some (.lst xs) → Ψ D v w (upd H' D (.lst ys)))
    (hs : ∀ D v H' σ2 Xb acc, v ∈ L → Le T H1 H' → H1 D = none → H' D = some (.lst acc) → Blk X scope Xb → Sg H' σ2 (δ.set j (.v v)) → wE Xb elt σ2 H' fun w H'' => Le T H' H'' ∧ Ψ D v w H'')
    (q : ∀ p (xs : List V) H2, H1 p = none → Le T H1 H2 → H2 p = some (.lst xs) → xs.length = L.length → (∀ (i : Nat) v w, L[i]? = some v → xs[i]? = some w → Ψ p v w H2) → Q (.ref p) H2)
    (hi : X.N[j]? = some x := by rfl)
    (hx : (relabel scope X.env).names.lookup x = some .local ∨ (relabel scope X.env).names.lookup x = some .cell := by first | exact Or.inl rfl | exact Or.inr rfl) (hf : (scope.names.lookup x == some .cell) = true ∨ (relabel scope X.env).names.lookup x = some .local := by first | exact Or.inl rfl | exact Or.inr rfl) :
    ∀ D, H1 D = none → ∃ W : Nat → Nat → Hp → Prop, (∃ m, W 0 m (upd H1 D (.lst []))) ∧ ∀ i m H, W i m H →
      (J.stop i H ∧ Q (.ref D) H) ∨ (J.go i H ∧ ∃ Nx : Hp → Prop, (∀ H', Nx H' → ∃ m', m' < m ∧ W (i + 1) m' H') ∧ ∀ y H', J.yld i H y H' → bG X scope (.Name x p) y (wipe σ [j]) H' fun σ2 H2 => wipe σ2 [j] = wipe σ [j] ∧ bTs X scope [] σ2 H2 fun b H3 =>
        if b = true then bE X scope elt σ2 H3 fun y H4 => ∃ acc, H4 D = some (.lst acc) ∧ acc.length < sizeLine ∧ Nx (upd H4 D (.lst (acc ++ [y]))) else Nx H3) := by
  intro D0 hD
  refine ⟨fun i m H' => m = L.length - i ∧ i ≤ L.length ∧ Le T H1 H' ∧ ∃ acc, H' D0 = some (.lst acc) ∧ acc.length = i ∧ ∀ (k : Nat) v w, L[k]? = some v → acc[k]? = some w → Ψ D0 v w H', ⟨L.length, by omega, Nat.zero_le _, .new hD, [], upd_same, rfl, fun k v w _ z => by cases z⟩, ?_⟩
  rintro i m H' ⟨rfl, hi', hle, acc, ha, hlen, hd⟩
  by_cases hlt : i < L.length
  · have hx' : L[i]? = some L[i] := List.getElem?_eq_getElem hlt
    obtain ⟨hgo, hy⟩ := wk.go H' i L[i] hle hx'
    refine .inr ⟨hgo, fun H2 => Le T H1 H2 ∧ ∃ acc, H2 D0 = some (.lst acc) ∧ acc.length = i + 1 ∧ ∀ (k : Nat) v w, L[k]? = some v → acc[k]? = some w → Ψ D0 v w H2, fun H2 ⟨a1, a2⟩ => ⟨L.length - (i + 1), by omega, rfl, hlt, a1, a2⟩, fun v H'' y => ?_⟩
    obtain ⟨rfl, rfl⟩ := hy v H'' y
    intro Xb hb
    have hb0 := hb
    obtain ⟨s0, H0, C, cl, fp, rfl⟩ := hb
    refine w_pg (pg_name c.nd hi hx hf) ⟨?_, fun Xb' hb' => ?_⟩
    · show ((((wipe σ []).set j none).set j (some L[i])).set j none) = (wipe σ []).set j none
      rw [List.set_set, List.set_set]
    · have g2 := ((g.mono hle.tk).wipe [j]).set (s := .v L[i]) (o := some L[i]) rfl j
      have e : (wipeS δ [j]).set j (.v L[i]) = δ.set j (.v L[i]) := by
        show ((wipeS δ []).set j .x).set j _ = _
        rw [List.set_set]
        rfl
      rw [e] at g2
      refine et_nil (T := T) H'' (.refl _) _ fun H4 l4 => ?_
      show bE X scope elt _ H4 _
      intro Xc hc
      refine (hs D0 L[i] H4 _ Xc acc (List.getElem_mem hlt) (hle.trans l4) hD (l4.lst ha) hc (g2.mono l4.tk)).imp fun w H5 ⟨l5, h5⟩ => ?_
      have ha5 := l5.lst (l4.lst ha)
      refine ⟨acc, ha5, by rw [hlen]; exact Nat.lt_of_lt_of_le hlt (Nat.le_trans hl (by decide)), ((hle.trans l4).trans l5).mutL hD ha5, acc ++ [w], upd_same, by rw [List.length_append, hlen]; rfl, fun k v w' hk hw => ?_⟩
      by_cases hki : k < i
      · rw [List.getElem?_append_left (by omega)] at hw
        exact m2 _ _ _ _ _ _ (m1 _ _ _ _ _ (m1 _ _ _ _ _ (hd k v w' hk hw) l4) l5) ha5
      · have hki' : k = i := by
          have := (List.getElem?_eq_some_iff.mp hw).1
          rw [List.length_append, List.length_singleton] at this
          omega
        subst hki'
        rw [hx'] at hk
        cases hk
        rw [List.getElem?_append_right (by omega), hlen, Nat.sub_self] at hw
        cases hw
        exact m2 _ _ _ _ _ _ h5 ha5
  · have e : i = L.length := by omega
    subst e
    exact .inl ⟨wk.stop H' _ hle (Nat.le_refl _), q D0 acc H' hD hle ha hlen hd⟩
/-- [elt for x in iter], x bound to what stands -/
theorem w_lcB {x : Str} (c : Fx X) (j : Nat) (ok : BlkOk X.N X.env.scope scope [(x, j)]) (h : tLc (wI X (.Name x p) iter) (bG X scope (.Name x p)) (bTs X scope []) (bE X scope elt) [j] σ H Q) (hfs : ∀ x, foldedSetIterable iter X.env x = pure x := by intro _; rfl) :
    wE X (.ListComp elt [⟨.Name x p, iter, [], 0⟩] scope pos) σ H Q := by
  refine w_pe (pe_lc (g := bG X scope (.Name x p)) (tt := bTs X scope []) (te := bE X scope elt) c.calm c.nd pi_w ok ?_ ?_ ?_ hfs) h
  · exact fun s H1 C cl fp => ⟨fun pins s1 σ1 H2 v u Q I r h => h _ (blk_mk s H1 C cl fp) pins s1 u I r⟩
  · exact fun s H1 C cl fp => ⟨fun pins s1 σ1 H2 Q I h => h _ (blk_mk s H1 C cl fp) pins s1 I⟩
  · exact fun s H1 C cl fp => ⟨fun pins s1 σ1 H2 Q I h => h _ (blk_mk s H1 C cl fp) pins s1 I⟩
theorem s_setLcB {x y : Str} {py : Pos} (c : Fx X) (i j : Nat) (ok : BlkOk X.N X.env.scope scope [(x, j)]) (h : tLc (wI X (.Name x p) iter) (bG X scope (.Name x p)) (bTs X scope []) (bE X scope elt) [j] σ H fun v H' => wSs X rest D (σ.set i (some v)) H')
    {spos : Pos} (hsw : swapsWith (.ListComp elt [⟨.Name x p, iter, [], 0⟩] scope pos) (some (.Name y py)) spos.line X.env = pure true) (hy : X.N[i]? = some y := by rfl) (hyl : X.env.scope.names.lookup y = some .local := by rfl) (hfs : ∀ x, foldedSetIterable iter X.env x = pure x := by intro _; rfl) :
    wSs X (.Assign [.Name y py] (.ListComp elt [⟨.Name x p, iter, [], 0⟩] scope pos) spos :: rest) D σ H := by
  refine s_cons (w_ps (ps_setLc (g := bG X scope (.Name x p)) (tt := bTs X scope []) (te := bE X scope elt) c.calm c.nd hy hyl hsw pi_w ok ?_ ?_ ?_ hfs) h)
  · exact fun s H1 C cl fp => ⟨fun pins s1 σ1 H2 v u Q I r h => h _ (blk_mk s H1 C cl fp) pins s1 u I r⟩
  · exact fun s H1 C cl fp => ⟨fun pins s1 σ1 H2 Q I h => h _ (blk_mk s H1 C cl fp) pins s1 I⟩
  · exact fun s H1 C cl fp => ⟨fun pins s1 σ1 H2 Q I h => h _ (blk_mk s H1 C cl fp) pins s1 I⟩
/-- l.insert(i, e), whatever e does -/
theorem s_insertW {i0 : Expr} (ho : Ev T X o σ H (.v (.ref q))) (hq : H q = some (.lst xs))
    (he : ∀ H1, Le T H H1 → wE X i0 σ H1 fun v1 H2 => wE X e σ H2 fun v H3 => ∃ (ys : List V) (j : Nat), v1 = .int (j : Int) ∧ H3 q = some (.lst ys) ∧ ys.length < 100000 ∧ j < 100000 ∧ wSs X rest D σ (upd H3 q (.lst (ys.take j ++ [v] ++ ys.drop j))))
    (hbm : PE X (.Call (.Attribute o "insert" p2) [i0, e] [] p3) (tBM X.K "list" (fun x vs H Q => ∃ (l : Addr) (xs : List V) (i : Int) (y : V), x = .ref l ∧ vs = [.int i, y] ∧ H l = some (.lst xs) ∧ xs.length < sizeLine ∧ 0 ≤ i ∧ i < 2 ^ 63 ∧ Q .non (upd H l (.lst (xs.take i.toNat ++ [y] ++ xs.drop i.toNat)))) (wE X o) (wA X [i0, e])) := by exact pe_bm PySem.F.plainAttrs_list PySem.F.slot_list_insert PySem.F.type_list_insert mt_insert pe_w pa_w)
    (hst : starEach [i0, e] X.env = (false, eval i0 X.env) :: starEach [e] X.env := by rfl) (hst2 : starEach [e] X.env = (false, eval e X.env) :: starEach [] X.env := by rfl) (hs : swapsWith (.Call (.Attribute o "insert" p2) [i0, e] [] p3) none pos.line X.env = pure false := by rfl) :
    wSs X (.Expr (.Call (.Attribute o "insert" p2) [i0, e] [] p3) pos :: rest) D σ H := by
  refine s_cons (w_ps (ps_expr hbm hs) ?_)
  refine ho H (.refl H) _ fun v H2 l2 h2 => ?_
  obtain rfl := sl_v h2
  refine ⟨.inl ⟨rfl, xs, SqL.of (l2.lst hq)⟩, ?_⟩
  refine w_pa (pa_cons pe_w (pa_cons pe_w pa_nil hst2) hst) ((he H2 l2).imp fun v H3 h3 => h3.imp fun v' H4 h4 => ?_)
  obtain ⟨ys, j, rfl, h5, h6, h7, h8⟩ := h4
  exact ⟨q, ys, j, v', rfl, rfl, h5, Nat.lt_of_lt_of_le h6 (by decide), by omega, by omega, h8⟩
end
end RF
set_option Elab.async false
set_option linter.all false
set_option maxRecDepth 100000
set_option maxHeartbeats 8000000
/-! statements with parts that act -/
namespace RF
open PySem PySem.Spec L2 LamX NdefX
open PyProof.Rows hiding St
open PySem.W (dataLe)
section
variable {T : List (Addr × Str)} {X : Cx} {e a b o i elt iter c : Expr} {es : List Expr} {σ : St} {H H1 H2 : Hp} {δ : List Sl} {pos pos' p p2 p3 apos : Pos} {q u : Addr} {xs : List V} {rest : List Stmt} {D : Ends} {Q : VK} {n m k : Nat} {K : PySem.W.Frag} {scope : Scope}
theorem wI.imp {tg : Expr} {R R' : It → Hp → Prop} (h : wI X tg e σ H R) (k : ∀ J H', R J H' → R' J H') : wI X tg e σ H R' := fun pins s I =>
  thn (h pins s I) fun _ _ h1 => thn h1 fun _ _ ⟨it, fp, tn, J, H', h2, h3, h4, h5, h6, h7⟩ => ⟨it, fp, tn, J, H', h2, h3, h4, h5, h6, k J H' h7⟩
theorem wT.of_v {v : V} {d : PyData} (h : Ev T X e σ H (.v v)) (hd : Dt H v d) : EvD T X e σ H d := fun H1 l Q q => h H1 l Q fun v' H2 l2 h2 => q v' H2 l2 ⟨v', rfl, by
  rw [sl_v h2]
  exact hd.mono (l.trans l2).tk⟩
/-- for, over what an acting part gives -/
theorem s_forW {α : Type} {enc : α → PyData} {tg : Expr} (cx : Fx X) {body : List Stmt}
    (h : wI X tg e σ H fun J' H1 => ∃ (S : Addr → Prop) (L : List α), WalkOk T J' S H1 enc L ∧ ∃ J : Nat → St → Hp → Prop, J 0 σ H1 ∧ (∀ i σ' H', J i σ' H' → Kp S H1 H') ∧ (∀ i σ' H' H2, J i σ' H' → Le T H' H2 → J i σ' H2) ∧
      (∀ i x v σ' H', L[i]? = some x → J i σ' H' → Dt H' v (enc x) → wG X tg v σ' H' fun σ2 H3 => wSs X body { D with nx := J (i + 1), ct := J (i + 1), bk := wSs X rest D } σ2 H3) ∧ (∀ σ' H', J L.length σ' H' → wSs X rest D σ' H'))
    (hfs : ∀ x, foldedSetIterable e X.env x = pure x := by intro _; rfl) : wSs X (.For tg e body [] pos :: rest) D σ H := by
  refine s_cons (w_ps (ps_for cx.po cx.calm pi_w pg_w pss_w hfs) (h.imp fun J' H1 h1 => ?_))
  obtain ⟨S, L, wk, J, h0, hk, hm, hs, hd⟩ := h1
  refine ⟨fun i m σ' H' => m = L.length - i ∧ i ≤ L.length ∧ J i σ' H', ⟨L.length, by omega, Nat.zero_le _, h0⟩, ?_⟩
  rintro i m σ' H' ⟨rfl, hi, hj⟩
  have kp := hk i σ' H' hj
  by_cases hlt : i < L.length
  · obtain ⟨hgo, hy⟩ := wk.go H' i L[i] kp (List.getElem?_eq_getElem hlt)
    refine .inr ⟨hgo, J (i + 1), fun σ2 H2 j2 => ⟨L.length - (i + 1), by omega, rfl, hlt, j2⟩, fun v H'' y => ?_⟩
    obtain ⟨l2, dv⟩ := hy v H'' y
    exact hs i L[i] v σ' H'' (List.getElem?_eq_getElem hlt) (hm i σ' H' H'' hj l2) dv
  · have e : i = L.length := by omega
    subst e
    exact .inl ⟨wk.stop H' _ kp (Nat.le_refl _), hd σ' H' hj⟩
/-- range(e), whatever e does -/
theorem wi_range1 {tg : Expr} {R : It → Hp → Prop} (h : wE X a σ H fun v H1 => ∃ j : Nat, v = .int (j : Int) ∧ j < 2 ^ 62 ∧ ∀ J, WalkOk T J S0 H1 encN (List.range j) → R J H1) (hm : X.mg "range" = none) (hg : Gl X "range" := by rfl) (hs : starEach [a] X.env = [(false, eval a X.env)] := by rfl) :
    wI X tg (.Call (.Name "range" p) [a] [] pos) σ H R := by
  refine w_pi (pi_range1 hg hm (pa_cons pe_w pa_nil hs) hs) (h.imp fun v H2 h2 => ?_)
  obtain ⟨n, rfl, hn, q⟩ := h2
  refine ⟨n, rfl, by omega, by omega, q _ ⟨fun H' i x kp hx => ?_, fun H' i kp hi => ?_⟩⟩
  · have hi : i < n := by
      have := (List.getElem?_eq_some_iff.mp hx).1
      rwa [List.length_range] at this
    have hx' : x = i := by
      rw [List.getElem?_range hi] at hx
      exact (Option.some.inj hx).symm
    subst hx'
    refine ⟨by show x < (n : Int).toNat; omega, fun v H'' y => ?_⟩
    obtain ⟨rfl, rfl⟩ := y
    refine ⟨.refl _, ?_⟩
    rw [Int.zero_add]
    exact .int _
  · rw [List.length_range] at hi
    show (n : Int).toNat ≤ i
    omega
theorem s_ifW {A B : List Stmt} (h : wT X c σ H fun k H' => (k = true → wSs X A { D with nx := wSs X rest D } σ H') ∧ (k = false → wSs X B { D with nx := wSs X rest D } σ H')) : wSs X (.If c A B pos :: rest) D σ H := by
  refine s_cons (w_ps (ps_if pt_w pss_w pss_w) (h.imp fun k H2 h2 => ?_))
  cases k with
  | true => exact h2.1 rfl
  | false => exact h2.2 rfl
theorem wt_and {Qb : Bool → Hp → Prop} (h : wT X a σ H fun k H' => (k = true → wT X b σ H' Qb) ∧ (k = false → Qb false H')) : wT X (.BoolOp .And [a, b] pos) σ H Qb := by
  refine w_pt pw_w.pt (w_pw (pw_and pt_w pw_w) (h.imp fun k H2 h2 => ?_))
  cases k with
  | true => exact w_pw (pw_and1 pt_w) (h2.1 rfl)
  | false => exact h2.2 rfl
theorem wt_eqI {Qb : Bool → Hp → Prop} {y : Int} (h : wE X a σ H fun v H' => ∃ x : Int, v = .int x ∧ ∀ H2, Le T H' H2 → Qb (decide (x = y)) H2) (hb : ∀ H, EvD T X b σ H (.int y)) : wT X (.Compare a [.Eq] [b] pos) σ H Qb := by
  refine w_pt (pt_cmpR op_eq pe_w pe_w (nomark _)) (h.imp fun v H2 h2 => ?_)
  obtain ⟨x, rfl, q⟩ := h2
  refine hb H2 H2 (.refl _) _ fun w H3 l3 h3 => ?_
  obtain rfl := (sl_d h3).inv_int
  refine ⟨rfl, decide (V.int x = V.int y), rfl, ?_⟩
  have e : decide (V.int x = V.int y) = decide (x = y) := by by_cases h : x = y <;> simp [h]
  rw [e]
  exact q H3 l3
/-- if a and b: .. else: .., a acts -/
theorem s_ifAndW {A B : List Stmt} {pa : Pos} (h : wT X a σ H fun k H' => ∃ kb, EvT T X b σ H' kb ∧ (k = true → kb = true → ∀ H2, Le T H' H2 → wSs X A { D with nx := wSs X rest D } σ H2) ∧ (∀ H2, Le T H' H2 → wSs X B { D with nx := wSs X rest D } σ H2)) : wSs X (.If (.BoolOp .And [a, b] pa) A B pos :: rest) D σ H := by
  refine s_ifW (wt_and (h.imp fun k H' h' => ?_))
  obtain ⟨kb, h1, h2, h3⟩ := h'
  refine ⟨fun e => h1 H' (.refl _) _ fun H2 l2 => ⟨fun e2 => h2 e e2 H2 l2, fun _ => h3 H2 l2⟩, fun e => ⟨fun z => (by cases z), fun _ => h3 H' (.refl _)⟩⟩
/-- tuple(e), e a list whatever it does -/
theorem w_tupleW (h : wE X a σ H fun v H2 => ∃ r xs, v = .ref r ∧ H2 r = some (.lst xs) ∧ ∀ n, H2 n = none → Q (.ref n) (upd H2 n (.tup xs))) (hm : X.mg "tuple" = none) (hg : Gl X "tuple" := by rfl) (hst : starEach [a] X.env = (false, eval a X.env) :: starEach [] X.env := by rfl) (hpl : (backTo pos (starEach [] X.env)).any (·.1) = false := by rfl) :
    wE X (.Call (.Name "tuple" p) [a] [] pos) σ H Q := by
  refine w_pe (pe_callTy call_tuple_of hg hm PyProof.Rows.boot_tuple (pa_cons pe_w pa_nil hst) (by decide) (by decide) hst hpl) (h.imp fun v H2 h2 => ?_)
  obtain ⟨r, xs, rfl, hr, q⟩ := h2
  exact ⟨r, xs, rfl, .inl ⟨SqL.of hr, q⟩⟩
theorem rows_of {α : Type} {enc : α → PyData} {P : α → Prop} : ∀ {xs : List V}, (∀ w ∈ xs, ∃ a, Dt H w (enc a) ∧ P a) → ∃ L : List α, DtL H xs (L.map enc) ∧ L.length = xs.length ∧ ∀ a ∈ L, P a
  | [], _ => ⟨[], .nil, rfl, fun _ h => by cases h⟩
  | x :: xs, h => by
    obtain ⟨a, h1, h2⟩ := h x List.mem_cons_self
    obtain ⟨L, h3, h4, h5⟩ := rows_of (xs := xs) fun w hw => h w (List.mem_cons_of_mem _ hw)
    refine ⟨a :: L, .cons h1 h3, by rw [List.length_cons, List.length_cons, h4], fun b hb => ?_⟩
    rcases List.mem_cons.mp hb with e | e
    · exact e ▸ h2
    · exact h5 b e
end
end RF
set_option Elab.async false
set_option linter.all false
set_option maxRecDepth 100000
set_option maxHeartbeats 8000000
/-! the law's programs -/
namespace RF
open PySem PySem.Spec L2 LamX NdefX
open PyProof.Rows hiding St
open PySem.W (dataLe)

def InsP (i : Ins) : Prop := ∀ x, i.var? = some x → x ∈ pool
def NearOk (p : Prog) : Prop := p.length ≤ 3 ∧ ∀ r ∈ p, r.length ≤ 6 ∧ ∀ i ∈ r, InsP i
def spNear (T : List (Addr × Str)) : Sp := fun vs H Q _ => ∃ (u : Addr) (n : Nat), vs = [.ref u] ∧ UrnAt H u n ∧ n ≤ 90000 ∧ ∀ v p H', LeX T (At u) H H' → UrnAt H' u (n + 26) → Dt H' v (encProg p) → NearOk p → Q v H'
theorem pool_ok : ∀ x ∈ pool, PyData.strOk x = true := by decide +kernel
theorem layI {i : Ins} (h : InsP i) : (encI i).canLay0 = true ∧ (encI i).depth ≤ 10 := by
  have k1 : PyData.strOk kSt = true := by decide +kernel
  have k2 : PyData.strOk kLd = true := by decide +kernel
  have k3 : PyData.strOk kSw = true := by decide +kernel
  have k4 : PyData.strOk kFe = true := by decide +kernel
  cases i <;> simp [encI, PyData.canLay0, PyData.canLayAll0, PyData.depth, PyData.depthAll, k1, k2, k3, k4]
  all_goals exact pool_ok _ (h _ rfl)
theorem shapedIs {r : Row} (h : ∀ i ∈ r, InsP i) : SeqAt.shaped (.list (r.map encI)) = true := shaped_list fun d hd => by
  obtain ⟨x, hx, rfl⟩ := List.mem_map.mp hd
  exact layI (h x hx)
def plans (x y z : Str) : List Prog := [[[.st x, .ld y], [.st y, .ld x]], [[.st x, .st y], [.ld y, .ld x]], [[.st x, .ld y], [.st y], [.ld y, .ld x]], [[.st x, .ld y], [.st y, .st x]], [[.st x, .ld y], [.st y, .ld z], [.st z, .ld x]], [[.st x, .st y], [.st y, .st x]]]
theorem plans_ok {x y z : Str} (hx : x ∈ pool) (hy : y ∈ pool) (hz : z ∈ pool) : ∀ p ∈ plans x y z, (0 < p.length ∧ p.length ≤ 3) ∧ ∀ r ∈ p, r.length ≤ 2 ∧ ∀ i ∈ r, InsP i := by
  have s : ∀ {w : Str}, w ∈ pool → InsP (.st w) := fun hw v e => by cases e; exact hw
  have l : ∀ {w : Str}, w ∈ pool → InsP (.ld w) := fun hw v e => by cases e; exact hw
  intro p hp
  simp only [plans, List.mem_cons, List.not_mem_nil, or_false] at hp
  rcases hp with rfl | rfl | rfl | rfl | rfl | rfl <;> refine ⟨⟨by simp, by simp⟩, fun r hr => ?_⟩ <;> simp only [List.mem_cons, List.not_mem_nil, or_false] at hr
  all_goals (rcases hr with rfl | rfl | rfl <;> refine ⟨by simp, fun i hi => ?_⟩ <;> simp only [List.mem_cons, List.not_mem_nil, or_false] at hi <;> rcases hi with rfl | rfl <;> first | exact s hx | exact s hy | exact s hz | exact l hx | exact l hy | exact l hz)
end RF
set_option Elab.async false
set_option linter.all false
set_option maxRecDepth 100000
set_option maxHeartbeats 8000000
/-! the law's programs: the walk -/
namespace RF
open PySem PySem.Spec L2 LamX NdefX
open PyProof.Rows hiding St
open PySem.W (dataLe)

section
variable {T : List (Addr × Str)} {X : Cx} {e a b : Expr} {σ : St} {H H0 H' : Hp} {pos p : Pos} {u pn pf : Addr} {Q : VK} {n m m' k : Nat} {ys : List Str} {ws : List V}
abbrev CIn (P : Program) (w : World) (K : PySem.W.Frag) (mg : Str → Option Value) (base : Heap) (T : List (Addr × Str)) (k : Nat) := Cal P w K mg base k "_law_instruction" ["_law_urn_here", "_law_names_here"] (spInst T)
theorem w_inst {r : Addr} (C : CIn X.prog X.w X.K X.mg X.base T k) (hr : Room k X.A) (hu : UrnAt H u n) (hn : n ≤ 99998) (ha : Ev T X a σ H (.v (.ref u))) (hb : Ev T X b σ H (.v (.ref r))) (hx : H r = some (.lst (ys.map V.str))) (h0 : 0 < ys.length) (h1 : ys.length ≤ 1000) (hne : r ≠ u)
    (hq : ∀ v (i : Ins) H', LeX T (At u) H H' → UrnAt H' u (n + 2) → Dt H' v (encI i) → (∀ x, i.var? = some x → x ∈ ys) → Q v H') (hg : Gl X "_law_instruction" := by rfl)
    (he : starEach [a, b] X.env = (false, eval a X.env) :: starEach [b] X.env := by rfl) (he2 : starEach [b] X.env = (false, eval b X.env) :: starEach [] X.env := by rfl) (hpl : (backTo pos (starEach [b] X.env)).any (·.1) = false := by rfl) :
    wE X (.Call (.Name "_law_instruction" p) [a, b] [] pos) σ H Q := by
  refine w_call (T := T) (ss := [.v (.ref u), .v (.ref r)]) C hr (ea_cons ha (ea_1 hb he2) he) (fun vs H' l hv => ?_) hg (by decide) he hpl
  obtain ⟨x, y, rfl, q1, q2⟩ := ss_two hv
  obtain rfl := sl_v q1
  obtain rfl := sl_v q2
  exact ⟨u, r, n, ys, rfl, hu.le l, hn, l.lst hx, h0, h1, hne, fun v i H2 lx => hq v i H2 ((LeX.of l).trans lx)⟩
def RwAt (H0 H : Hp) (pn pf : Addr) (w : V) (k : Nat) : Prop := ∃ (q : Addr) (xs : List V) (row : Row), w = .ref q ∧ H0 q = none ∧ q ≠ pn ∧ q ≠ pf ∧ H q = some (.lst xs) ∧ DtL H xs (row.map encI) ∧ row.length ≤ k ∧ ∀ i ∈ row, InsP i
structure NS (T : List (Addr × Str)) (H0 : Hp) (u pn pf : Addr) (ys : List Str) (ws : List V) (m k : Nat) (H : Hp) : Prop where
  h0 : H0 u ≠ none
  nn : pn ≠ u
  nf : pf ≠ u
  lx : LeX T (At u) H0 H
  ur : UrnAt H u m
  hn : H pn = some (.lst (ys.map V.str))
  hf : H pf = some (.lst ws)
  rw : ∀ w ∈ ws, RwAt H0 H pn pf w k
theorem NS.lex (s : NS T H0 u pn pf ys ws m k H) (l : LeX T (At u) H H') (hu : UrnAt H' u m') : NS T H0 u pn pf ys ws m' k H' where
  h0 := s.h0
  nn := s.nn
  nf := s.nf
  lx := s.lx.trans l
  ur := hu
  hn := l.lst s.nn s.hn
  hf := l.lst s.nf s.hf
  rw := fun w hw => by
    obtain ⟨q, xs, row, h1, h2, h3, h4, h5, h6, h7⟩ := s.rw w hw
    exact ⟨q, xs, row, h1, h2, h3, h4, l.lst (fun z => s.h0 (z ▸ h2)) h5, h6.mono (s.ur.tk l), h7⟩
theorem NS.le (s : NS T H0 u pn pf ys ws m k H) (l : Le T H H') : NS T H0 u pn pf ys ws m k H' := s.lex (.of l) (s.ur.le l)
theorem NS.up (s : NS T H0 u pn pf ys ws m k H) {k' : Nat} (l : k ≤ k') (l2 : m ≤ m') : NS T H0 u pn pf ys ws m' k' H :=
  ⟨s.h0, s.nn, s.nf, s.lx, s.ur.up l2, s.hn, s.hf, fun w hw => by
      obtain ⟨q, xs, row, h1, h2, h3, h4, h5, h6, h7, h8⟩ := s.rw w hw
      exact ⟨q, xs, row, h1, h2, h3, h4, h5, h6, by omega, h8⟩⟩
theorem NS.set (s : NS T H0 u pn pf ys ws m k H) {q : Addr} {xs xs' : List V} {row : Row} (h1 : H0 q = none) (h2 : q ≠ pn) (h3 : q ≠ pf) (h4 : H q = some (.lst xs)) (h5 : DtL H xs' (row.map encI)) (h6 : row.length ≤ k) (h7 : ∀ i ∈ row, InsP i) :
    NS T H0 u pn pf ys ws m k (upd H q (.lst xs')) where
  h0 := s.h0
  nn := s.nn
  nf := s.nf
  lx := s.lx.mutL h1 h4
  ur := by
    obtain ⟨a, b, c, k1, k2⟩ := s.ur
    exact ⟨a, b, c, by rw [upd_ne (fun z => s.h0 (by rw [z]; exact h1))]; exact k1, k2⟩
  hn := by rw [upd_ne (Ne.symm h2)]; exact s.hn
  hf := by rw [upd_ne (Ne.symm h3)]; exact s.hf
  rw := fun w hw => by
    obtain ⟨q2, ys2, row2, k1, k2, k3, k4, k5, k6, k7, k8⟩ := s.rw w hw
    by_cases e : q2 = q
    · subst e
      exact ⟨q2, xs', row, k1, k2, k3, k4, upd_same, h5.mono (tk_lst h4), h6, h7⟩
    · exact ⟨q2, ys2, row2, k1, k2, k3, k4, by rw [upd_ne e]; exact k5, k6.mono (tk_lst h4), k7, k8⟩
/-- append to a list made since Hb -/
theorem s_appD {H Hb : Hp} {o : Expr} {δ : List Sl} {p2 p3 : Pos} {rest : List Stmt} {D : Ends} {q : Addr} {xs : List V} {ds : List PyData} {d : PyData} (l : Le T Hb H) (hb : Hb q = none) (hd : DtL H xs ds) (g : Sg H σ δ) (ho : Ev T X o σ H (.v (.ref q))) (hq : H q = some (.lst xs)) (hl : xs.length < 100000) (he : EvD T X e σ H d)
    (kk : ∀ v H', Le T Hb H' → H' q = some (.lst (xs ++ [v])) → DtL H' (xs ++ [v]) (ds ++ [d]) → Sg H' σ δ → wSs X rest D σ H')
    (hbm : PE X (.Call (.Attribute o "append" p2) [e] [] p3) (tBM X.K "list" rAppend (wE X o) (wA X [e])) := by exact pe_bm PySem.F.plainAttrs_list PySem.F.slot_list_append PySem.F.type_list_append mt_append pe_w pa_w)
    (hst : starEach [e] X.env = (false, eval e X.env) :: starEach [] X.env := by rfl) (hs : swapsWith (.Call (.Attribute o "append" p2) [e] [] p3) none pos.line X.env = pure false := by rfl) :
    wSs X (.Expr (.Call (.Attribute o "append" p2) [e] [] p3) pos :: rest) D σ H :=
  s_append ho hq hl he (fun v H' l' hv => kk v _ ((l.trans l').mutL hb (l'.lst hq)) upd_same ((((hd.mono l'.tk).append (.cons (sl_d hv) .nil))).mono (tk_lst (l'.lst hq))) ((g.mono l'.tk).mono (tk_lst (l'.lst hq)))) hbm hst hs
theorem dtl_erase {H : Hp} : ∀ {xs : List V} {ds : List PyData} (j : Nat), DtL H xs ds → DtL H (xs.eraseIdx j) (ds.eraseIdx j)
  | _, _, _, .nil => .nil
  | _, _, 0, .cons _ t => t
  | _, _, j + 1, .cons h t => .cons h (dtl_erase j t)
end
section
variable {P : Program} {w : World} {K : PySem.W.Frag} {mg : Str → Option Value} {base : Heap} {T : List (Addr × Str)} {f : Addr} {fd : FuncData} {k : Nat}
abbrev CNm (P : Program) (w : World) (K : PySem.W.Frag) (mg : Str → Option Value) (base : Heap) (T : List (Addr × Str)) (k : Nat) := Cal P w K mg base k "_law_names" ["_law_urn_here", "_law_many"] (spNames T)
abbrev nNr : List Str := ["_law_urn_here", "_law_names_here", "_law_x", "_law_y", "_law_z", "_law_some", "_law_found", "_law_thread", "_law_turn", "_law_at"]
theorem ok_law_near (M : Nm mg) (F : Fun K "_law_near" "_law_near" (topS 42) f fd) (C0 : CTk P w K mg base T k) (C1 : COf P w K mg base T k) (C2 : CNm P w K mg base T k) (C3 : CIn P w K mg base T k) : FnOk P w K mg base CX0 (k + 1) f fd ["_law_urn_here"] (spNear T) := by
  have S : FnScope nNr ["_law_urn_here"] (defScope (topS 42)) := ⟨rfl, rfl, rfl, by decide +kernel, rfl, by decide +kernel, by decide +kernel⟩
  refine fun_okW F S (fun vs H Q E h => ?_) fun X cdv A outer s H vs Q E e cx hr h => ?_
  · obtain ⟨u, n, rfl, _⟩ := h
    rfl
  subst e
  obtain ⟨u, n, rfl, hu, hn, q⟩ := h
  have g : Sg H (L2.start nNr [.ref u]) [.v (.ref u), .x, .x, .x, .x, .x, .x, .x, .x, .x] := .cons rfl (.cons True.intro (.cons True.intro (.cons True.intro (.cons True.intro (.cons True.intro (.cons True.intro (.cons True.intro (.cons True.intro (.cons True.intro .nil)))))))))
  have hu0 : H u ≠ none := fun z => by
    obtain ⟨_, _, _, h3, _⟩ := hu
    rw [h3] at z
    cases z
  -- the names
  refine s_setG cx 1 (w_call (T := T) (ss := [.v (.ref u), .d (.int ((4 : Nat) : Int))]) C2 hr (ea_cons (ev_v 0 g rfl) (ea_1 ev_int)) fun vs H1 l1 hv => ?_)
  obtain ⟨x, y, rfl, q1, q2⟩ := ss_two hv
  obtain rfl := sl_v q1
  refine ⟨u, n, 4, y, rfl, hu.le l1, by omega, sl_d q2, by decide, fun pn ys H2 hpn lx2 hu2 hys hyl hyp => ?_⟩
  have lx2' : LeX T (At u) H H2 := (LeX.of l1).trans lx2
  have hpn0 : H pn = none := l1.fr _ hpn
  have g2 : Sg H2 ((L2.start nNr [.ref u]).set 1 (some (.ref pn))) [.v (.ref u), .v (.ref pn), .x, .x, .x, .x, .x, .x, .x, .x] := (g.mono (hu.tk lx2')).set (s := .v (.ref pn)) rfl 1
  obtain ⟨x, y, z, z4, rfl⟩ : ∃ x y z z4, ys = [x, y, z, z4] := by
    match ys, hyl with
    | [x, y, z, z4], _ => exact ⟨x, y, z, z4, rfl⟩
  have hxp := hyp x (by simp)
  have hyp' := hyp y (by simp)
  have hzp := hyp z (by simp)
  show wSs _ _ _ _ _
  generalize hσ : (L2.start nNr [V.ref u]).set 1 (some (V.ref pn)) = σ2 at g2 ⊢
  -- x, y, z
  refine s_cons (w_ps (ps_asg pe_w pg_w (by rfl) (by rfl) (by rfl)) (w_pe (pe_slice sl_list pe_w po_w po_w) ?_))
  refine Ev.app (T := T) (ev_v 1 g2 rfl) (.refl _) fun v1 H3 l3 h3 => ?_
  obtain rfl := sl_v h3
  refine (EvO.no (T := T)).get H3 (.refl _) _ fun H4 l4 => (EvO.so (T := T) (i := 3) ev_int).get H4 (.refl _) _ fun H5 l5 => ⟨pn, _, rfl, SqL.of (l5.lst (l4.lst (l3.lst hys))), fun ps hps => ?_⟩
  have l35 : Le T H2 H5 := l3.trans (l4.trans l5)
  have l6 : Le T H5 (upd H5 ps (.lst (cutV ([x, y, z, z4].map V.str) none (some 3)))) := .new hps
  have hcut : cutV ([x, y, z, z4].map V.str) none (some 3) = [.str x, .str y, .str z] := rfl
  have hps6 : upd H5 ps (.lst (cutV ([x, y, z, z4].map V.str) none (some 3))) ps = some (.lst [.str x, .str y, .str z]) := by rw [upd_same, hcut]
  generalize upd H5 ps (.lst (cutV ([x, y, z, z4].map V.str) none (some 3))) = H6 at l6 hps6 ⊢
  have g6 := g2.mono (l35.trans l6).tk
  refine w_pg (pg_lst (n := 3) cx.calm (pgs_cons (pg_name cx.nd (i := 2) rfl (by first | exact Or.inl rfl | exact Or.inr rfl)) (pgs_cons (pg_name cx.nd (i := 3) rfl (by first | exact Or.inl rfl | exact Or.inr rfl)) (pgs_cons (pg_name cx.nd (i := 4) rfl (by first | exact Or.inl rfl | exact Or.inr rfl)) pgs_nil)))) ?_
  refine ⟨ps, _, rfl, SqL.of hps6, rfl, _, _, rfl, _, _, rfl, _, _, rfl, rfl, ?_⟩
  have g7 : Sg H6 (((σ2.set 2 (some (.str x))).set 3 (some (.str y))).set 4 (some (.str z))) [.v (.ref u), .v (.ref pn), .d (.str x), .d (.str y), .d (.str z), .x, .x, .x, .x, .x] := ((g6.set (s := .d (.str x)) ⟨_, rfl, .str x⟩ 2).set (s := .d (.str y)) ⟨_, rfl, .str y⟩ 3).set (s := .d (.str z)) ⟨_, rfl, .str z⟩ 4
  generalize ((σ2.set 2 (some (V.str x))).set 3 (some (V.str y))).set 4 (some (V.str z)) = σ7 at g7 ⊢
  have lx6 : LeX T (At u) H H6 := lx2'.trans (.of (l35.trans l6))
  have hu6 : UrnAt H6 u (n + 4) := hu2.le (l35.trans l6)
  have hn6 : H6 pn = some (.lst ([x, y, z, z4].map V.str)) := (l35.trans l6).lst hys
  -- the plans
  refine s_setN (T := T) cx 5 g7 (ds := [encProg [[.st x, .ld y], [.st y, .ld x]]]) (ev_lst (ds := [encProg [[.st x, .ld y], [.st y, .ld x]]]) (ea_1 (ev_tup (ds := [encRow [.st x, .ld y], encRow [.st y, .ld x]]) (ea_cons (ev_tup (ds := [encI (.st x), encI (.ld y)]) (ea_cons (ev_tup (ds := [.str kSt, .str x]) (ea_cons ev_str (ea_1 (ev_v 2 g7 rfl)))) (ea_1 (ev_tup (ds := [.str kLd, .str y]) (ea_cons ev_str (ea_1 (ev_v 3 g7 rfl))))))) (ea_1 (ev_tup (ds := [encI (.st y), encI (.ld x)]) (ea_cons (ev_tup (ds := [.str kSt, .str y]) (ea_cons ev_str (ea_1 (ev_v 3 g7 rfl)))) (ea_1 (ev_tup (ds := [.str kLd, .str x]) (ea_cons ev_str (ea_1 (ev_v 2 g7 rfl)))))))))))) fun pm xs0 σ8 H8 hpm l8 hm8 hd8 g8 => ?_
  have g8 : Sg H8 σ8 [.v (.ref u), .v (.ref pn), .d (.str x), .d (.str y), .d (.str z), .v (.ref pm), .x, .x, .x, .x] := g8
  have hl8 : xs0.length = 1 := hd8.len
  have lb8 : Le T H6 H8 := l8
  refine s_appD (T := T) (Hb := H6) (d := encProg [[.st x, .st y], [.ld y, .ld x]]) lb8 hpm hd8 g8 (ev_v 5 g8 rfl) hm8 (by simp [hl8]) (ev_tup (ds := [encRow [.st x, .st y], encRow [.ld y, .ld x]]) (ea_cons (ev_tup (ds := [encI (.st x), encI (.st y)]) (ea_cons (ev_tup (ds := [.str kSt, .str x]) (ea_cons ev_str (ea_1 (ev_v 2 g8 rfl)))) (ea_1 (ev_tup (ds := [.str kSt, .str y]) (ea_cons ev_str (ea_1 (ev_v 3 g8 rfl))))))) (ea_1 (ev_tup (ds := [encI (.ld y), encI (.ld x)]) (ea_cons (ev_tup (ds := [.str kLd, .str y]) (ea_cons ev_str (ea_1 (ev_v 3 g8 rfl)))) (ea_1 (ev_tup (ds := [.str kLd, .str x]) (ea_cons ev_str (ea_1 (ev_v 2 g8 rfl)))))))))) fun v1 Ha1 la1 ma1 da1 ga1 => ?_
  refine s_appD (T := T) (Hb := H6) (d := encProg [[.st x, .ld y], [.st y], [.ld y, .ld x]]) la1 hpm da1 ga1 (ev_v 5 ga1 rfl) ma1 (by simp [hl8]) (ev_tup (ds := [encRow [.st x, .ld y], encRow [.st y], encRow [.ld y, .ld x]]) (ea_cons (ev_tup (ds := [encI (.st x), encI (.ld y)]) (ea_cons (ev_tup (ds := [.str kSt, .str x]) (ea_cons ev_str (ea_1 (ev_v 2 ga1 rfl)))) (ea_1 (ev_tup (ds := [.str kLd, .str y]) (ea_cons ev_str (ea_1 (ev_v 3 ga1 rfl))))))) (ea_cons (ev_tup (ds := [encI (.st y)]) (ea_1 (ev_tup (ds := [.str kSt, .str y]) (ea_cons ev_str (ea_1 (ev_v 3 ga1 rfl)))))) (ea_1 (ev_tup (ds := [encI (.ld y), encI (.ld x)]) (ea_cons (ev_tup (ds := [.str kLd, .str y]) (ea_cons ev_str (ea_1 (ev_v 3 ga1 rfl)))) (ea_1 (ev_tup (ds := [.str kLd, .str x]) (ea_cons ev_str (ea_1 (ev_v 2 ga1 rfl))))))))))) fun v2 Ha2 la2 ma2 da2 ga2 => ?_
  refine s_appD (T := T) (Hb := H6) (d := encProg [[.st x, .ld y], [.st y, .st x]]) la2 hpm da2 ga2 (ev_v 5 ga2 rfl) ma2 (by simp [hl8]) (ev_tup (ds := [encRow [.st x, .ld y], encRow [.st y, .st x]]) (ea_cons (ev_tup (ds := [encI (.st x), encI (.ld y)]) (ea_cons (ev_tup (ds := [.str kSt, .str x]) (ea_cons ev_str (ea_1 (ev_v 2 ga2 rfl)))) (ea_1 (ev_tup (ds := [.str kLd, .str y]) (ea_cons ev_str (ea_1 (ev_v 3 ga2 rfl))))))) (ea_1 (ev_tup (ds := [encI (.st y), encI (.st x)]) (ea_cons (ev_tup (ds := [.str kSt, .str y]) (ea_cons ev_str (ea_1 (ev_v 3 ga2 rfl)))) (ea_1 (ev_tup (ds := [.str kSt, .str x]) (ea_cons ev_str (ea_1 (ev_v 2 ga2 rfl)))))))))) fun v3 Ha3 la3 ma3 da3 ga3 => ?_
  refine s_appD (T := T) (Hb := H6) (d := encProg [[.st x, .ld y], [.st y, .ld z], [.st z, .ld x]]) la3 hpm da3 ga3 (ev_v 5 ga3 rfl) ma3 (by simp [hl8]) (ev_tup (ds := [encRow [.st x, .ld y], encRow [.st y, .ld z], encRow [.st z, .ld x]]) (ea_cons (ev_tup (ds := [encI (.st x), encI (.ld y)]) (ea_cons (ev_tup (ds := [.str kSt, .str x]) (ea_cons ev_str (ea_1 (ev_v 2 ga3 rfl)))) (ea_1 (ev_tup (ds := [.str kLd, .str y]) (ea_cons ev_str (ea_1 (ev_v 3 ga3 rfl))))))) (ea_cons (ev_tup (ds := [encI (.st y), encI (.ld z)]) (ea_cons (ev_tup (ds := [.str kSt, .str y]) (ea_cons ev_str (ea_1 (ev_v 3 ga3 rfl)))) (ea_1 (ev_tup (ds := [.str kLd, .str z]) (ea_cons ev_str (ea_1 (ev_v 4 ga3 rfl))))))) (ea_1 (ev_tup (ds := [encI (.st z), encI (.ld x)]) (ea_cons (ev_tup (ds := [.str kSt, .str z]) (ea_cons ev_str (ea_1 (ev_v 4 ga3 rfl)))) (ea_1 (ev_tup (ds := [.str kLd, .str x]) (ea_cons ev_str (ea_1 (ev_v 2 ga3 rfl))))))))))) fun v4 Ha4 la4 ma4 da4 ga4 => ?_
  refine s_appD (T := T) (Hb := H6) (d := encProg [[.st x, .st y], [.st y, .st x]]) la4 hpm da4 ga4 (ev_v 5 ga4 rfl) ma4 (by simp [hl8]) (ev_tup (ds := [encRow [.st x, .st y], encRow [.st y, .st x]]) (ea_cons (ev_tup (ds := [encI (.st x), encI (.st y)]) (ea_cons (ev_tup (ds := [.str kSt, .str x]) (ea_cons ev_str (ea_1 (ev_v 2 ga4 rfl)))) (ea_1 (ev_tup (ds := [.str kSt, .str y]) (ea_cons ev_str (ea_1 (ev_v 3 ga4 rfl))))))) (ea_1 (ev_tup (ds := [encI (.st y), encI (.st x)]) (ea_cons (ev_tup (ds := [.str kSt, .str y]) (ea_cons ev_str (ea_1 (ev_v 3 ga4 rfl)))) (ea_1 (ev_tup (ds := [.str kSt, .str x]) (ea_cons ev_str (ea_1 (ev_v 2 ga4 rfl)))))))))) fun v5 Ha5 la5 ma5 da5 ga5 => ?_
  have hdl : DtL Ha5 (xs0 ++ [v1] ++ [v2] ++ [v3] ++ [v4] ++ [v5]) ((plans x y z).map encProg) := da5
  have hlen : (xs0 ++ [v1] ++ [v2] ++ [v3] ++ [v4] ++ [v5]).length = 6 := by simp [hl8]
  generalize xs0 ++ [v1] ++ [v2] ++ [v3] ++ [v4] ++ [v5] = sm at ma5 hdl hlen
  have hu12 : UrnAt Ha5 u (n + 4) := hu6.le la5
  have lx12 : LeX T (At u) H Ha5 := lx6.trans (.of la5)
  have hn12 := la5.lst hn6
  have hpmu : pm ≠ u := fun z => hu0 (by rw [← z]; exact lx6.fr _ hpm)
  -- the threads
  refine s_setLcB cx 6 7 (blkOk_by (N := nNr) (sc := defScope (topS 42)) (own := [("_law_thread", 7)]) (by decide +kernel)) ?_ (sw_true rfl rfl rfl (by decide +kernel))
  refine w_pi (pi_tup pe_w) (w_ofL (T := T) (n := n + 4) (xs := sm) C1 hr hu12 (by omega) (ev_v 0 ga5 rfl) (ev_v 5 ga5 rfl) ma5 (by omega) (by omega) hpmu fun v H13 lx13 hu13 hv => ?_)
  obtain ⟨d, hd1, hd2⟩ := hdl.mem hv
  obtain ⟨p, hp, rfl⟩ := List.mem_map.mp hd1
  have pok := plans_ok hxp hyp' hzp p hp
  obtain ⟨a, rows, rfl, ha, hrows⟩ := (hd2.mono (hu12.tk lx13)).inv_tup
  have hrl : rows.length = p.length := by rw [hrows.len, List.length_map]
  have g13 := ga5.mono (hu12.tk lx13)
  have lxt : LeX T (At u) H H13 := lx12.trans lx13
  have hn13 := lx13.lst (fun z => hu0 (by rw [← z]; exact hpn0)) hn12
  refine ⟨a, rfl, ⟨rows, SqT.of ha⟩, ?_⟩
  refine lc_turns (T := T) (Q := fun v H' => wSs _ _ _ (σ8.set 6 (some v)) H') cx 7 (wv_tup ha) (by omega) g13 (fun D v w H' => ∃ (r : Addr) (xs : List V) (row : Row), w = .ref r ∧ r ≠ D ∧ H13 r = none ∧ H' r = some (.lst xs) ∧ DtL H' xs (row.map encI) ∧ row.length ≤ 2 ∧ ∀ i ∈ row, InsP i) (fun D v w H' H'' h l => ?_) (fun D v w H' xs ys h l => ?_) (fun D v H' σ2 Xb acc hv l hD hacc hb g2 => ?_) (fun pf ws H14 hpf l14 hws hlen hΨ => ?_) (hi := rfl) (hx := ?hx) (hf := ?hf)
  case hx => first | exact Or.inl rfl | exact Or.inr rfl
  case hf => first | exact Or.inl rfl | exact Or.inr rfl
  · obtain ⟨r, xs, row, h1, h2, h3, h4, h5, h6⟩ := h
    exact ⟨r, xs, row, h1, h2, h3, l.lst h4, h5.mono l.tk, h6⟩
  · obtain ⟨r, xs2, row, h1, h2, h3, h4, h5, h6⟩ := h
    exact ⟨r, xs2, row, h1, h2, h3, by rw [upd_ne h2]; exact h4, h5.mono (tk_lst l), h6⟩
  · obtain ⟨d, e1, e2⟩ := hrows.mem hv
    obtain ⟨row, hrow, rfl⟩ := List.mem_map.mp e1
    obtain ⟨s0, H0', C, cl, fp, rfl⟩ := hb
    refine EvL.app (T := T) (ev_listT (wT.of_v (ev_v 7 g2 rfl) (e2.mono l.tk)) M.list) (.refl _) fun r zs H'' hn l' hz hd => ⟨l', r, zs, row, rfl, (fun z => by rw [z, hacc] at hn; cases hn), l.fr _ hn, hz, hd, (pok.2 row hrow).1, (pok.2 row hrow).2⟩
  have hpf0 : H pf = none := lxt.fr _ hpf
  have ns14 : NS T H u pn pf [x, y, z, z4] ws (n + 5) 2 H14 := by
    refine ⟨hu0, fun z => hu0 (by rw [← z]; exact hpn0), fun z => hu0 (by rw [← z]; exact hpf0), lxt.trans (.of l14), hu13.le l14, l14.lst hn13, hws, fun w hw => ?_⟩
    obtain ⟨i, hi⟩ := List.mem_iff_getElem?.mp hw
    have hi' : i < rows.length := by
      have := (List.getElem?_eq_some_iff.mp hi).1
      omega
    obtain ⟨r, xs, row, h1, h2, h3, h4, h5, h6, h7⟩ := hΨ i _ w (List.getElem?_eq_getElem hi') hi
    exact ⟨r, xs, row, h1, lxt.fr _ h3, (fun z => by rw [z, hn13] at h3; cases h3), h2, h4, h5, h6, h7⟩
  show wSs _ _ _ _ _
  have g14 : Sg H14 (σ8.set 6 (some (.ref pf))) [.v (.ref u), .v (.ref pn), .d (.str x), .d (.str y), .d (.str z), .v (.ref pm), .v (.ref pf), .x, .x, .x] := (g13.mono l14.tk).set (s := .v (.ref pf)) rfl 6
  have hwl : 0 < ws.length ∧ ws.length ≤ 3 := by
    have := pok.1
    omega
  clear hΨ g13 ga5 ga4 ga3 ga2 ga1 g8 g7 g6 g2
  generalize σ8.set 6 (some (V.ref pf)) = σ14 at g14 ⊢
  have g14' : Sg H14 σ14 [.v (.ref u), .v (.ref pn), .x, .x, .x, .x, .v (.ref pf), .x, .x, .x] := (((g14.forget 2).forget 3).forget 4).forget 5
  clear g14
  -- the turns
  refine s_forW (T := T) (enc := encN) cx (wi_range1 (T := T) (w_take (T := T) (n := n + 5) (m := 5) C0 hr ns14.ur (by omega) (ev_v 0 g14' rfl) ev_int (by decide) (by decide) fun v j H15 lx15 hu15 hv hj => ?_) M.range)
  obtain rfl := hv.inv_int
  have g15 := g14'.mono (ns14.ur.tk lx15)
  have ns15 := ns14.lex lx15 hu15
  refine ⟨j, rfl, by omega, fun J wk => ⟨S0, List.range j, wk, fun i σ' H' => Tk H15 H' ∧ Sg H' σ' [.v (.ref u), .v (.ref pn), .x, .x, .x, .x, .v (.ref pf), .x, .x, .x] ∧ NS T H u pn pf [x, y, z, z4] ws (n + 6 + 5 * i) (2 + i) H', ⟨Tk.refl _, g15, ns15⟩, fun i σ' H' j => ⟨j.1, fun _ _ z => z.elim⟩, fun i σ' H' H2 j l => ⟨j.1.trans l.tk, j.2.1.mono l.tk, j.2.2.le l⟩, fun i t v σ' H' hx jj dv => ?_, fun σ' H' jj => ?_⟩⟩
  · have hi : i < j := by
      have := (List.getElem?_eq_some_iff.mp hx).1
      rwa [List.length_range] at this
    obtain ⟨tk0, gA, nsA⟩ := jj
    refine g_name cx 8 gA (s := .d (encN t)) ⟨v, rfl, dv⟩ fun σB gB => ?_
    refine s_setG cx 7 (w_ofL (T := T) (n := n + 6 + 5 * i) (xs := ws) C1 hr nsA.ur (by omega) (ev_v 0 gB rfl) (ev_v 6 gB rfl) nsA.hf hwl.1 (by omega) nsA.nf fun tv HC lxC huC htv => ?_)
    have nsC := nsA.lex lxC huC
    have gC0 : Sg HC (σB.set 7 (some tv)) [.v (.ref u), .v (.ref pn), .x, .x, .x, .x, .v (.ref pf), .v tv, .d (encN t), .x] := (gB.mono (nsA.ur.tk lxC)).set (s := .v tv) rfl 7
    obtain ⟨tq, txs, trow, rfl, tq0, tqn, tqf, htq, htd, htl, hti⟩ := nsC.rw tv htv
    have tk1 : Tk H15 HC := tk0.trans (nsA.ur.tk lxC)
    show wSs _ _ _ _ _
    generalize σB.set 7 (some (V.ref tq)) = σC at gC0 ⊢
    have htu : tq ≠ u := fun z => hu0 (by rw [← z]; exact tq0)
    refine s_setG cx 9 (w_take (T := T) (n := n + 6 + 5 * i + 1) (m := trow.length + 1) C0 hr huC (by omega) (ev_v 0 gC0 rfl) (EvD.to (ev_add (ev_lenL (ev_v 7 gC0 rfl) htq M.len) ev_int) (by rw [htd.len, List.length_map]; rfl)) (by omega) (by omega) fun av aj HD lxD huD hav haj => ?_)
    obtain rfl := hav.inv_int
    have nsD := nsC.lex lxD huD
    have gD0 : Sg HD (σC.set 9 (some (.int (aj : Int)))) [.v (.ref u), .v (.ref pn), .x, .x, .x, .x, .v (.ref pf), .v (.ref tq), .d (encN t), .d (.int (aj : Int))] := (gC0.mono (huC.tk lxD)).set (s := .d (.int (aj : Int))) ⟨_, rfl, .int _⟩ 9
    have tk2 : Tk H15 HD := tk1.trans (huC.tk lxD)
    have htqD := lxD.lst htu htq
    have htdD := htd.mono (huC.tk lxD)
    show wSs _ _ _ _ _
    generalize σC.set 9 (some (V.int (aj : Int))) = σD at gD0 ⊢
    -- what the turn leaves
    have fin : ∀ HE (zs : List V) (row' : Row), Tk H15 HE → Sg HE σD [.v (.ref u), .v (.ref pn), .x, .x, .x, .x, .v (.ref pf), .v (.ref tq), .d (encN t), .d (.int (aj : Int))] → NS T H u pn pf [x, y, z, z4] ws (n + 6 + 5 * (i + 1)) (2 + i) HE → ∀ xs0, HE tq = some (.lst xs0) → DtL HE zs (row'.map encI) → row'.length ≤ 2 + (i + 1) → (∀ i ∈ row', InsP i) →
        Tk H15 (upd HE tq (.lst zs)) ∧ Sg (upd HE tq (.lst zs)) σD [.v (.ref u), .v (.ref pn), .x, .x, .x, .x, .v (.ref pf), .x, .x, .x] ∧ NS T H u pn pf [x, y, z, z4] ws (n + 6 + 5 * (i + 1)) (2 + (i + 1)) (upd HE tq (.lst zs)) := by
      intro HE zs row' tkE gE nsE xs0 hx0 hd hl hi
      have tkU := tk_lst (o := .lst zs) hx0
      exact ⟨tkE.trans tkU, (((gE.forget 7).forget 8).forget 9).mono tkU, (nsE.up (k' := 2 + (i + 1)) (by omega) (Nat.le_refl _)).set tq0 tqn tqf hx0 hd hl hi⟩
    refine s_ifAndW (T := T) (wt_eqI (T := T) (y := 0) (w_take (T := T) (n := n + 6 + 5 * i + 2) (m := 4) C0 hr huD (by omega) (ev_v 0 gD0 rfl) ev_int (by decide) (by decide) fun bv bj HE lxE huE hbv hbj => ⟨bj, hbv.inv_int, fun HF lF => ?_⟩) fun H => ev_int)
    have lxF : LeX T (At u) HD HF := lxE.trans (.of lF)
    have huF := huE.le lF
    have nsF := nsD.lex lxF huF
    have gF := gD0.mono (huD.tk lxF)
    have htqF := lxF.lst htu htqD
    have htdF := htdD.mono (huD.tk lxF)
    have tk3 := tk2.trans (huD.tk lxF)
    refine ⟨_, EB.t (eb_neNil (by have := room65 hr; omega) (es_lst (ev_v 7 gF rfl) htqF htdF) (shapedIs hti)), fun _ hne HG lG => ?_, fun HG lG => ?_⟩
    · have hpos : 0 < trow.length := by
        cases trow with
        | nil => cases hne
        | cons _ _ => exact Nat.succ_pos _
      have gG := gF.mono lG.tk
      have lG0 := lG.lst htqF
      refine s_exprG (w_popAt (T := T) (q := tq) (ev_v 7 gG rfl) lG0 fun HI lI => ?_)
      have gI := gG.mono lI.tk
      have lI0 := lI.lst lG0
      have hdI := (htdF.mono lG.tk).mono lI.tk
      have hml : (aj : Int) % (trow.length : Int) = ((aj % trow.length : Nat) : Int) := by omega
      refine Ev.app (T := T) (ev_mod (ev_v 9 gI rfl) (EvD.to (ev_lenL (ev_v 7 gI rfl) lI0 M.len) (by rw [hdI.len, List.length_map])) (by omega)) (.refl _) fun mv HJ lJ hmv => ?_
      have hmv := (sl_d hmv).inv_int
      rw [hml] at hmv
      have hlt : aj % trow.length < trow.length := Nat.mod_lt _ hpos
      have htl : txs.length = trow.length := by rw [htd.len, List.length_map]
      refine ⟨txs, aj % trow.length, txs[aj % trow.length]'(by omega), hmv, lJ.lst lI0, List.getElem?_eq_getElem _, by omega, s_nil ?_⟩
      have lGJ := lG.trans (lI.trans lJ)
      show wSs _ _ _ _ _
      refine s_nil ?_
      refine fin HJ (txs.eraseIdx (aj % trow.length)) (trow.eraseIdx (aj % trow.length)) (tk3.trans lGJ.tk) (gF.mono lGJ.tk) ((nsF.le lGJ).up (Nat.le_refl _) (by omega)) txs (lJ.lst lI0) ?_ ?_ fun i hi => hti i ((List.eraseIdx_sublist _ _).subset hi)
      · rw [← map_erase]
        exact dtl_erase _ (hdI.mono lJ.tk)
      · have := List.length_eraseIdx_le trow (aj % trow.length)
        omega
    · have gG := gF.mono lG.tk
      have lG0 := lG.lst htqF
      refine s_insertW (T := T) (q := tq) (ev_v 7 gG rfl) lG0 fun HI lI => ?_
      have gI := gG.mono lI.tk
      refine Ev.app (T := T) (ev_v 9 gI rfl) (.refl _) fun v1 HJ lJ hv1 => ?_
      have lGJ := lG.trans (lI.trans lJ)
      have nsJ := nsF.le lGJ
      have gJ := gF.mono lGJ.tk
      refine w_inst (T := T) (n := n + 6 + 5 * i + 3) (ys := [x, y, z, z4]) C3 hr nsJ.ur (by omega) (ev_v 0 gJ rfl) (ev_v 1 gJ rfl) nsJ.hn (by simp) (by simp) nsJ.nn fun iv ii HL lxL huL hiv hip => ?_
      have hL0 := lxL.lst htu (lGJ.lst htqF)
      have tkL := nsJ.ur.tk lxL
      have htl : txs.length = trow.length := by rw [htd.len, List.length_map]
      refine ⟨txs, aj, (sl_d hv1).inv_int, hL0, by omega, by omega, s_nil ?_⟩
      show wSs _ _ _ _ _
      refine s_nil ?_
      refine fin HL (txs.take aj ++ [iv] ++ txs.drop aj) (trow.take aj ++ [ii] ++ trow.drop aj) ((tk3.trans lGJ.tk).trans tkL) (gJ.mono tkL) ((nsJ.lex lxL huL).up (Nat.le_refl _) (by omega)) txs hL0 ?_ ?_ fun i hi => ?_
      · rw [List.map_append, List.map_append, List.map_take, List.map_drop]
        have hdL := (htdF.mono lGJ.tk).mono tkL
        exact ((hdL.take _).append (.cons hiv .nil)).append (hdL.drop _)
      · rw [List.length_append, List.length_append, List.length_take, List.length_drop, List.length_singleton]
        omega
      · rcases List.mem_append.mp hi with h | h
        · rcases List.mem_append.mp h with h | h
          · exact hti _ (List.mem_of_mem_take h)
          · rw [List.mem_singleton.mp h]
            exact fun w hw => hyp w (hip w hw)
        · exact hti _ (List.mem_of_mem_drop h)
  · obtain ⟨tk0, gA, nsA⟩ := jj
    rw [List.length_range] at nsA
    refine s_retW (w_tupleW ?_ M.tuple)
    refine w_lcB cx 7 (blkOk_by (N := nNr) (sc := defScope (topS 42)) (own := [("_law_thread", 7)]) (by decide +kernel)) ?_
    refine w_pi (pi_list pe_w) (Ev.app (T := T) (ev_v 6 gA rfl) (.refl _) fun v1 HB lB hB => ?_)
    obtain rfl := sl_v hB
    have nsB := nsA.le lB
    refine ⟨pf, rfl, ⟨ws, SqL.of nsB.hf⟩, ?_⟩
    refine lc_turns (T := T) (Q := fun v H2 => ∃ (r : Addr) (xs : List V), v = .ref r ∧ H2 r = some (.lst xs) ∧ ∀ n, H2 n = none → Q (.ref n) (upd H2 n (.tup xs))) cx 7 (wv_lst nsB.hf) (by omega) (gA.mono lB.tk) (fun D v w H' => ∃ row : Row, Dt H' w (encRow row) ∧ row.length ≤ 6 ∧ ∀ i ∈ row, InsP i) (fun D v w H' H'' h l => ?_) (fun D v w H' xs ys h l => ?_) (fun D v H' σ2 Xb acc hv l hD hacc hb g2 => ?_) (fun pr rs HC hpr lC hrs hlen hΨ => ?_) (hi := rfl) (hx := ?hx2) (hf := ?hf2)
    case hx2 => first | exact Or.inl rfl | exact Or.inr rfl
    case hf2 => first | exact Or.inl rfl | exact Or.inr rfl
    · obtain ⟨row, h1, h2⟩ := h
      exact ⟨row, h1.mono l.tk, h2⟩
    · obtain ⟨row, h1, h2⟩ := h
      exact ⟨row, h1.mono (tk_lst l), h2⟩
    · obtain ⟨tq, txs, trow, rfl, tq0, tqn, tqf, htq, htd, htl, hti⟩ := nsB.rw v hv
      obtain ⟨s0, H0', C, cl, fp, rfl⟩ := hb
      refine Ev.app (T := T) (ev_tupL (ev_v 7 g2 rfl) (l.lst htq) (htd.mono l.tk) M.tuple) (.refl _) fun w HC lC hw => ⟨lC, trow, sl_d hw, by omega, hti⟩
    · have hall : ∀ w ∈ rs, ∃ row : Row, Dt HC w (encRow row) ∧ (row.length ≤ 6 ∧ ∀ i ∈ row, InsP i) := fun w hw => by
        obtain ⟨i, hi⟩ := List.mem_iff_getElem?.mp hw
        have hi' : i < ws.length := by
          have := (List.getElem?_eq_some_iff.mp hi).1
          omega
        exact hΨ i _ w (List.getElem?_eq_getElem hi') hi
      obtain ⟨p, hp1, hp2, hp3⟩ := rows_of hall
      have nsC := nsB.le lC
      refine ⟨pr, rs, rfl, hrs, fun nn hnn => q _ p _ (nsC.lx.trans (.of (.new hnn))) ((nsC.ur.le (.new (T := T) hnn)).up (by omega)) (.tup upd_same (hp1.mono (Le.new (T := T) hnn).tk)) ⟨by omega, hp3⟩⟩
end
end RF
set_option Elab.async false
set_option linter.all false
set_option maxRecDepth 100000
set_option maxHeartbeats 8000000
/-! comprehensions over pairs -/
namespace RF
open PySem PySem.Spec L2 LamX NdefX
open PyProof.Rows hiding St
open PySem.W (dataLe)
section
variable {T : List (Addr × Str)} {X : Cx} {elt iter : Expr} {ifs : List Expr} {σ : St} {H H' : Hp} {δ : List Sl} {pos p p1 p2 : Pos} {scope : Scope} {α : Type} {enc : α → PyData} {L : List α}
theorem wipe2 {i j : Nat} (hij : i ≠ j) (σ : St) (a b : Option V) : wipe (((wipe σ [i, j]).set i a).set j b) [i, j] = wipe σ [i, j] := by
  show ((((((σ.set j none).set i none).set i a).set j b).set j none).set i none) = (σ.set j none).set i none
  rw [List.set_set, List.set_set, List.set_comm _ _ hij, List.set_set, List.set_set]
theorem turn2 (c : Fx X) (i j : Nat) (hij : i ≠ j) (g : Sg H σ δ) {x y : Str} {kk : Nat} {f : α → Option PyData} {z : α} {v : V} {d e : PyData} (he : enc z = .tuple [d, e]) (l : Le T H H') (dv : Dt H' v (enc z))
    (hs : ∀ σ2 Xb, Blk X scope Xb → Sg H' σ2 ((δ.set i (.d d)).set j (.d e)) → EvTs T Xb ifs σ2 H' (f z).isSome ∧ ∀ d, f z = some d → EvD T Xb elt σ2 H' d) (hi : X.N[i]? = some x) (hj : X.N[j]? = some y)
    (hx : (relabel scope X.env).names.lookup x = some .local) (hy : (relabel scope X.env).names.lookup y = some .local) : LcTurn T X scope (.Tuple [.Name x p1, .Name y p2] kk pos) elt ifs [i, j] σ f z v H' := by
  intro Xb hb
  have hb0 := hb
  obtain ⟨s0, H0, C, cl, fp, rfl⟩ := hb
  refine w_pg (pg_tup c.calm (pgs_cons (pg_name c.nd hi (.inl hx) (.inr hx)) (pgs_cons (pg_name c.nd hj (.inl hy) (.inr hy)) pgs_nil))) ?_
  rw [he] at dv
  obtain ⟨a, xs, rfl, ha, hd⟩ := dv.inv_tup
  cases hd with
  | cons h1 t =>
    cases t with
    | cons h2 t =>
      cases t
      refine ⟨a, _, rfl, SqT.of ha, rfl, _, _, rfl, _, _, rfl, rfl, rfl, wipe2 hij σ _ _, fun Xb' hb' => hs _ Xb' hb' ?_⟩
      have g2 := (((g.mono l.tk).wipe [i, j]).set (s := .d d) ⟨_, rfl, h1⟩ i).set (s := .d e) ⟨_, rfl, h2⟩ j
      have e2 : ((wipeS δ [i, j]).set i (.d d)).set j (.d e) = (δ.set i (.d d)).set j (.d e) := by
        show ((((δ.set j .x).set i .x).set i (.d d)).set j (.d e)) = _
        rw [List.set_set, List.set_comm _ _ hij, List.set_set]
        exact List.set_comm _ _ (Ne.symm hij)
      rw [e2] at g2
      exact g2
/-- [elt for x, y in iter if ..] -/
theorem ev_lc2 (c : Fx X) {x y : Str} {kk : Nat} {S : Addr → Prop} (h : EvI T X (.Tuple [.Name x p1, .Name y p2] kk p) iter σ H S enc L) (i j : Nat) (hij : i ≠ j) (g : Sg H σ δ) (f : α → Option PyData) (d1 d2 : α → PyData) (he : ∀ z, enc z = .tuple [d1 z, d2 z])
    (hs : ∀ z H' σ2 Xb, z ∈ L → Le T H H' → Blk X scope Xb → Sg H' σ2 ((δ.set i (.d (d1 z))).set j (.d (d2 z))) → EvTs T Xb ifs σ2 H' (f z).isSome ∧ ∀ d, f z = some d → EvD T Xb elt σ2 H' d) (hl : L.length ≤ 100000)
    (ok : BlkOk X.N X.env.scope scope [(x, i), (y, j)]) (hi : X.N[i]? = some x := by rfl) (hj : X.N[j]? = some y := by rfl) (hx : (relabel scope X.env).names.lookup x = some .local := by rfl) (hy : (relabel scope X.env).names.lookup y = some .local := by rfl)
    (hfs : ∀ x, foldedSetIterable iter X.env x = pure x := by intro _; rfl) :
    EvL T X (.ListComp elt [⟨.Tuple [.Name x p1, .Name y p2] kk p, iter, ifs, 0⟩] scope pos) σ H (L.filterMap f) :=
  ev_lcG c h [(x, i), (y, j)] ok f hl (fun H1 l z v H' hz l' dv => turn2 c i j hij g (he z) (l.trans l') dv (fun σ2 Xb hb g2 => hs z H' σ2 Xb hz (l.trans l') hb g2) hi hj hx hy) hfs
end
end RF
set_option Elab.async false
set_option linter.all false
set_option maxRecDepth 100000
set_option maxHeartbeats 8000000
/-! _law_every -/
namespace RF
open PySem PySem.Spec L2 LamX NdefX
open PyProof.Rows hiding St
open PySem.W (dataLe)
section
variable {T : List (Addr × Str)} {X : Cx} {a b : Expr} {σ : St} {H : Hp} {pos : Pos} {q1 q2 : Addr} {xs ys : List V}
/-- l + m, lists that stand -/
theorem ev_catL {d1 d2 : List PyData} (ha : Ev T X a σ H (.v (.ref q1))) (h1 : H q1 = some (.lst xs)) (e1 : DtL H xs d1) (hb : Ev T X b σ H (.v (.ref q2))) (h2 : H q2 = some (.lst ys)) (e2 : DtL H ys d2) (hl : xs.length + ys.length ≤ 100000) : EvL T X (.BinOp a .Add b pos) σ H (d1 ++ d2) := fun H1 l Q q => by
  refine w_pe (pe_op op_cat pe_w pe_w) (ha H1 l _ fun v H2 l2 hv => hb H2 (l.trans l2) _ fun w H3 l3 hw => ?_)
  obtain rfl := sl_v hv
  obtain rfl := sl_v hw
  have l4 := (l.trans l2).trans l3
  refine ⟨q1, q2, xs, ys, rfl, rfl, l4.lst h1, l4.lst h2, Nat.le_trans hl (by decide), fun p hp => q p _ _ (l2.fr _ (l3.fr _ hp)) ((l2.trans l3).trans (.new hp)) upd_same ?_⟩
  exact ((e1.mono l4.tk).append (e2.mono l4.tk)).mono (Le.new (T := T) hp).tk
end
def everyF (x : List Ins × Nat) : List Rem := (List.range (x.1.length + 1)).map fun a => (false, x.2, a)
def everyW (x : List Ins × Nat) : List Rem := (x.1.zipIdx.filter fun z => z.1.isSt).map fun z => (true, x.2, z.2)
def everyM (p : Prog) : List Rem := p.zipIdx.flatMap everyF ++ p.zipIdx.flatMap everyW
theorem everyF_le (p : Prog) (hp : ProgOk p) : (p.zipIdx.flatMap everyF).length ≤ 102 := by
  refine Nat.le_trans (flat_le _ 17 _ fun x hx => ?_) ?_
  · unfold everyF
    rw [List.length_map, List.length_range]
    have := (hp.2 x.1 (mem_zipIdx_row hx).1).1
    omega
  · rw [List.length_zipIdx]
    have := hp.1
    omega
theorem everyW_le (p : Prog) (hp : ProgOk p) : (p.zipIdx.flatMap everyW).length ≤ 102 := by
  refine Nat.le_trans (flat_le _ 17 _ fun x hx => ?_) ?_
  · unfold everyW
    rw [List.length_map]
    refine Nat.le_trans (List.length_filter_le _ _) ?_
    rw [List.length_zipIdx]
    have := (hp.2 x.1 (mem_zipIdx_row hx).1).1
    omega
  · rw [List.length_zipIdx]
    have := hp.1
    omega
theorem take_flat_le {α β : Type} (F : α → List β) (L : List α) (i : Nat) : ((L.take i).flatMap F).length ≤ (L.flatMap F).length := by
  have h : (L.flatMap F).length = ((L.take i).flatMap F).length + ((L.drop i).flatMap F).length := by
    rw [← List.length_append, ← List.flatMap_append, List.take_append_drop]
  omega
theorem take_flat_succ {α β : Type} (F : α → List β) (L : List α) (i : Nat) (x : α) (h : L[i]? = some x) : (L.take (i + 1)).flatMap F = (L.take i).flatMap F ++ F x := by
  rw [List.take_add_one, h, List.flatMap_append]
  simp
section
variable {P : Program} {w : World} {K : PySem.W.Frag} {mg : Str → Option Value} {base : Heap} {T : List (Addr × Str)} {f : Addr} {fd : FuncData} {k : Nat}
def rEvery : List PyData → List PyData → Prop := fun ds es => ∃ p : Prog, ProgOk p ∧ ds = [encProg p] ∧ es = (everyM p).map encR
abbrev nEv : List Str := ["_law_plan", "_law_found", "_law_later", "_law_thread", "_law_row", "_law_at", "_law_one"]
theorem ok_law_every (M : Nm mg) (F : Fun K "_law_every" "_law_every" (topS 50) f fd) : FnOk P w K mg base CX0 (k + 1) f fd ["_law_plan"] (spRL T 1 rEvery) := by
  have S : FnScope nEv ["_law_plan"] (defScope (topS 50)) := ⟨rfl, rfl, rfl, by decide +kernel, rfl, by decide +kernel, by decide +kernel⟩
  refine fun_okW F S (fun _ _ _ _ h => spRL_len h) fun X cdv A outer s H vs Q E e c hr h => ?_
  subst e
  obtain ⟨ds, es, _, hd, ⟨p, hp, rfl, rfl⟩, q⟩ := h
  have g : Sg H (L2.start nEv vs) [.d (encProg p), .x, .x, .x, .x, .x, .x] := startN hd
  refine s_parL (T := T) c 1 2 g (d1 := []) (d2 := []) (ev_lst (ds := []) ea_nil) (ev_lst (ds := []) ea_nil) fun q1 q2 xs ys σ1 H1 n1 n2 ne l1 hx dx hy dy g1 => ?_
  cases dx
  cases dy
  have g1' : Sg H1 σ1 [.d (encProg p), .v (.ref q1), .v (.ref q2), .x, .x, .x, .x] := g1
  have lenF := everyF_le p hp
  have lenW := everyW_le p hp
  refine s_for (T := T) c (enc := encE encRow) (L := p.zipIdx) (ei_enumT (ev_v 0 g1' rfl) M.enumerate) (fun Hs i σ' H' => Tk Hs H' ∧ Le T H H' ∧ Sg H' σ' [.d (encProg p), .v (.ref q1), .v (.ref q2), .x, .x, .x, .x] ∧ ∃ xs ys, H' q1 = some (.lst xs) ∧ H' q2 = some (.lst ys) ∧ DtL H' xs (((p.zipIdx.take i).flatMap everyF).map encR) ∧ DtL H' ys (((p.zipIdx.take i).flatMap everyW).map encR))
    (fun Hs l => ⟨.refl _, l1.trans l, g1'.mono l.tk, [], [], l.lst hx, l.lst hy, .nil, .nil⟩) (fun Hs i σ' H' l j => ⟨j.1, fun _ _ z => z.elim⟩) (fun Hs i σ' H' H2 j l => ?_) (fun Hs i x v σ' H' l hxi j dv => ?_) (fun Hs σ' H' l j => ?_)
  · obtain ⟨j1, j2, j3, xs, ys, j4, j5, j6, j7⟩ := j
    exact ⟨j1.trans l.tk, j2.trans l, j3.mono l.tk, xs, ys, l.lst j4, l.lst j5, j6.mono l.tk, j7.mono l.tk⟩
  · obtain ⟨r, t⟩ := x
    obtain ⟨j1, j2, j3, xs, ys, j4, j5, j6, j7⟩ := j
    have hrow := mem_zipIdx_row (List.mem_of_getElem? hxi)
    have hlen : r.length ≤ 16 := (hp.2 _ hrow.1).1
    refine g_tup2 c 3 4 j3 ⟨_, rfl, dv⟩ fun σ3 g3 => ?_
    have g3' : Sg H' σ3 [.d (encProg p), .v (.ref q1), .v (.ref q2), .d (.int t), .d (encRow r), .x, .x] := g3
    have hr1 : ((r.length : Int) + 1) = ((r.length + 1 : Nat) : Int) := by omega
    have b1 := take_flat_le everyF p.zipIdx i
    have b2 := take_flat_le everyW p.zipIdx i
    have c1 := j6.len
    have c2 := j7.len
    rw [List.length_map] at c1 c2
    -- the fences
    refine s_extend (T := T) (ds := (everyF (r, t)).map encR) (ev_v 1 g3' rfl) j4 ?_ ?_ fun zs4 H4 l4 h4 => ?_
    · refine EvL.to (ev_lc c (enc := encN) (L := List.range (r.length + 1)) (ei_range1 (ea_1 (EvD.to (ev_add (ev_lenRow (ev_v 4 g3' rfl) M.len) ev_int) (by rw [hr1]))) (by omega) M.range) 5 g3' (fun a => some (encR (false, t, a))) (fun a H2 σ2 Xb ha l' hb g2 => ?_) (by rw [List.length_range]; omega) (blkOk_by (N := nEv) (sc := defScope (topS 50)) (own := [("_law_at", 5)]) (by decide +kernel))) ?_
      · obtain ⟨s0, H0, C, cl, fp, rfl⟩ := hb
        refine ⟨et_nil, fun d hd => ?_⟩
        cases hd
        exact ev_tup (ds := [.str (wordOf false), .int t, .int a]) (ea_cons ev_str (ea_cons (ev_v 3 g2 rfl) (ea_1 (ev_v 5 g2 rfl))))
      · rw [filterMap_some]
        unfold everyF
        rw [List.map_map]
        rfl
    · rw [List.length_map]
      unfold everyF
      rw [List.length_map, List.length_range]
      show xs.length + (r.length + 1) ≤ _
      omega
    have q4 := l4.lst j4
    have g4 := (g3'.mono l4.tk).mono (tk_lst (o := .lst (xs ++ zs4)) q4)
    have le4 : Le T H (upd H4 q1 (.lst (xs ++ zs4))) := (j2.trans l4).mutL n1 q4
    have tk4 : Tk Hs (upd H4 q1 (.lst (xs ++ zs4))) := (j1.trans l4.tk).trans (tk_lst q4)
    have e1 : upd H4 q1 (.lst (xs ++ zs4)) q1 = some (.lst (xs ++ zs4)) := upd_same
    have e2 : upd H4 q1 (.lst (xs ++ zs4)) q2 = some (.lst ys) := by rw [upd_ne (Ne.symm ne)]; exact l4.lst j5
    have d1 : DtL (upd H4 q1 (.lst (xs ++ zs4))) (xs ++ zs4) (((p.zipIdx.take (i + 1)).flatMap everyF).map encR) := by
      rw [take_flat_succ everyF _ _ _ hxi, List.map_append]
      exact ((j6.mono l4.tk).append h4).mono (tk_lst q4)
    have d2 := (j7.mono l4.tk).mono (tk_lst (o := .lst (xs ++ zs4)) q4)
    generalize upd H4 q1 (.lst (xs ++ zs4)) = H5 at g4 le4 tk4 e1 e2 d1 d2 ⊢
    -- the swaps
    refine s_extend (T := T) (ds := (everyW (r, t)).map encR) (ev_v 2 g4 rfl) e2 ?_ ?_ fun zs6 H6 l6 h6 => s_nil ?_
    · refine EvL.to (ev_lc2 c (enc := encE encI) (L := r.zipIdx) (ei_enumT (ev_v 4 g4 rfl) M.enumerate) 5 6 (by decide) g4 (fun z => if z.1.isSt = true then some (encR (true, t, z.2)) else none) (fun z => .int (z.2 : Int)) (fun z => encI z.1) (fun z => rfl) (fun z H2 σ2 Xb hz l' hb g2 => ?_) (by rw [List.length_zipIdx]; omega) (blkOk_by (N := nEv) (sc := defScope (topS 50)) (own := [("_law_at", 5), ("_law_one", 6)]) (by decide +kernel))) ?_
      · obtain ⟨s0, H0, C, cl, fp, rfl⟩ := hb
        refine ⟨et_one (EB.t (EB.to (eb_eqS (ev_i0 (ev_v 6 g2 rfl) ev_int) ev_str) ?_)), fun d hd => ?_⟩
        · rw [show (if z.1.isSt = true then some (encR (true, t, z.2)) else none).isSome = z.1.isSt by cases z.1.isSt <;> rfl]
          exact isSt_kind z.1
        · split at hd
          · cases hd
            exact ev_tup (ds := [.str (wordOf true), .int t, .int z.2]) (ea_cons ev_str (ea_cons (ev_v 3 g2 rfl) (ea_1 (ev_v 5 g2 rfl))))
          · cases hd
      · rw [filterMap_if (fun z : Ins × Nat => z.1.isSt) (fun z => encR (true, t, z.2))]
        unfold everyW
        rw [List.map_map]
        rfl
    · rw [List.length_map]
      unfold everyW
      rw [List.length_map]
      have := List.length_filter_le (fun z : Ins × Nat => z.1.isSt) r.zipIdx
      rw [List.length_zipIdx] at this
      show ys.length + (List.filter (fun z : Ins × Nat => z.1.isSt) r.zipIdx).length ≤ _
      omega
    have q6 := l6.lst e2
    refine ⟨(tk4.trans l6.tk).trans (tk_lst q6), (le4.trans l6).mutL n2 q6, (((g4.mono l6.tk).mono (tk_lst q6)).forget 3).forget 4, xs ++ zs4, ys ++ zs6, by rw [upd_ne ne]; exact l6.lst e1, upd_same, (d1.mono l6.tk).mono (tk_lst q6), ?_⟩
    rw [take_flat_succ everyW _ _ _ hxi, List.map_append]
    exact ((d2.mono l6.tk).append h6).mono (tk_lst q6)
  · obtain ⟨j1, j2, j3, xs, ys, j4, j5, j6, j7⟩ := j
    have ht : p.zipIdx.take p.zipIdx.length = p.zipIdx := List.take_length
    rw [ht] at j6 j7
    have c1 := j6.len
    have c2 := j7.len
    rw [List.length_map] at c1 c2
    refine s_retNew (T := T) (EvL.to (ev_catL (ev_v 1 j3 rfl) j4 j6 (ev_v 2 j3 rfl) j5 j7 (by omega)) (ds' := (everyM p).map encR) (by unfold everyM; rw [List.map_append])) fun r zs H3 hr l3 hr3 hz => q r zs H3 (j2.fr _ hr) (j2.trans l3) hr3 hz
end
end RF
set_option Elab.async false
set_option linter.all false
set_option maxRecDepth 100000
set_option maxHeartbeats 8000000
/-! order of remedies; rows of the search for the smallest set -/
namespace RF
open PySem PySem.Spec L2 LamX NdefX
open PyProof.Rows hiding St
open PySem.W (dataLe dataLt alike alikeAll)

/-- data > data -/
def rGtD : R2 := fun x y H Q => ∃ d d', Dt H x d ∧ Dt H y d' ∧ alike d d' = true ∧ d ≠ .none ∧ d.depth ≤ 60 ∧ Q (.bl (dataLt d' d)) H
theorem op_gtD {X : Cx} (hu : X.A.units + 64 < cLine) : OpR X (compareOp .Gt) rGtD := by
  intro pins s σ H x y v u Q I rx ry h
  obtain ⟨d, d', h1, h2, h3, h4, h5, q⟩ := h
  exact PySem.W.gt_data (Dt.rd I.hok d x v h1 rx) (Dt.rd I.hok d' y u h2 ry) h3 h4 (by have := Nat.min_le_left d.depth d'.depth; omega) ⟨.bl (dataLt d' d), H, I, rfl, q⟩
section
variable {T : List (Addr × Str)} {X : Cx} {a b : Expr} {σ : St} {H : Hp} {pos : Pos}
theorem eb_gtD {d d' : PyData} (hu : X.A.units + 64 < cLine) (ha : EvD T X a σ H d) (hb : EvD T X b σ H d') (h1 : alike d d' = true) (h2 : d ≠ .none) (h3 : d.depth ≤ 60) : EB T X (.Compare a [.Gt] [b] pos) σ H (dataLt d' d) :=
  eb_cmp (op_gtD hu) ha hb (nomark _) fun v w H3 Q _ e2 e3 q => ⟨d, d', sl_d e2, sl_d e3, h1, h2, h3, q⟩
/-- t + u, tuples -/
theorem ev_catT {d1 d2 : List PyData} (ha : EvD T X a σ H (.tuple d1)) (hb : EvD T X b σ H (.tuple d2)) (hl : d1.length + d2.length ≤ 100000) : EvD T X (.BinOp a .Add b pos) σ H (.tuple (d1 ++ d2)) := fun H1 l Q q => by
  refine w_pe (pe_op op_catA pe_w pe_w) (ha H1 l _ fun v H2 l2 hv => hb H2 (l.trans l2) _ fun w H3 l3 hw => ?_)
  have hv := (sl_d hv).mono l3.tk
  have hw := sl_d hw
  obtain ⟨p, xs, rfl, hp, hx⟩ := hv.inv_tup
  obtain ⟨p2, ys, rfl, hp2, hy⟩ := hw.inv_tup
  have l4 := l2.trans l3
  refine ⟨p, p2, xs, ys, rfl, rfl, SqT.of hp, SqT.of hp2, by rw [hx.len, hy.len]; exact Nat.le_trans hl (by decide), fun e => ?_, fun e1 e2 => ?_, fun e1 e2 r hr => ?_⟩
  · subst e
    cases hx
    exact q _ H3 l4 ⟨_, rfl, .tup hp2 hy⟩
  · subst e2
    cases hy
    exact q _ H3 l4 ⟨_, rfl, by rw [List.append_nil]; exact .tup hp hx⟩
  · exact q _ _ (l4.trans (.new hr)) ⟨_, rfl, .tup upd_same ((hx.append hy).mono (Le.new (T := T) hr).tk)⟩
end
def ltR (x y : Rem) : Bool := dataLt (encR x) (encR y)
theorem word_lt (b c : Bool) : dataLt (.str (wordOf b)) (.str (wordOf c)) = (!b && c) := by
  rw [PySem.W.dataLt_str]
  cases b <;> cases c <;> decide +kernel
theorem wordOf_eqv (b c : Bool) : PyData.eqv (.str (wordOf b)) (.str (wordOf c)) = decide (b = c) := by
  rw [eqv_str]
  cases b <;> cases c <;> simp [wordOf, n_wf, n_wf.symm]
theorem ltR_eq (x y : Rem) : ltR x y = ((!x.1 && y.1) || (decide (x.1 = y.1) && decide (x.2.1 < y.2.1 ∨ (x.2.1 = y.2.1 ∧ x.2.2 < y.2.2)))) := by
  obtain ⟨b, t, a⟩ := x
  obtain ⟨c, t', a'⟩ := y
  unfold ltR encR
  rw [PySem.W.dataLt_tuple, PySem.W.dataLt_cons (by simp [alike]), wordOf_eqv, word_lt, ← PySem.W.dataLt_tuple, PySem.W.dataLt_ii]
  cases b <;> cases c <;> simp [Int.natCast_inj]
end RF
set_option Elab.async false
set_option linter.all false
set_option maxRecDepth 100000
set_option maxHeartbeats 8000000
/-! the rows of the search for the smallest set: how many they are -/
namespace RF
open PySem PySem.Spec L2 LamX NdefX

def nextOk (row : List Rem) (x : Rem) : Bool := row.isEmpty || (match row.getLast? with | some y => ltR y x | none => false)
def stepRow (us : List Rem) (row : List Rem) : List (List Rem) := (us.filter (nextOk row)).map fun x => row ++ [x]
def rowsM (us : List Rem) : Nat → List (List Rem)
  | 0 => [[]]
  | k + 1 => (rowsM us k).flatMap (stepRow us)
def rk (x : Rem) : Nat := (if x.1 = true then 7 else 0) + x.2.2
def OneThread (us : List Rem) : Prop := us.Nodup ∧ ∃ t, ∀ x ∈ us, x.2.1 = t ∧ x.2.2 ≤ 6
theorem rk_lt {x : Rem} (h : x.2.2 ≤ 6) : rk x < 14 := by
  unfold rk
  split <;> omega
theorem rk_inj {x y : Rem} (hx : x.2.2 ≤ 6) (hy : y.2.2 ≤ 6) (ht : x.2.1 = y.2.1) (h : rk x = rk y) : x = y := by
  obtain ⟨b, t, a⟩ := x
  obtain ⟨c, t', a'⟩ := y
  unfold rk at h
  simp only at h hx hy ht ⊢
  subst ht
  cases b <;> cases c <;> simp at h ⊢ <;> omega
theorem ltR_rk {x y : Rem} (hx : x.2.2 ≤ 6) (hy : y.2.2 ≤ 6) (ht : x.2.1 = y.2.1) (h : ltR x y = true) : rk x < rk y := by
  rw [ltR_eq] at h
  obtain ⟨b, t, a⟩ := x
  obtain ⟨c, t', a'⟩ := y
  unfold rk
  simp only at h hx hy ht ⊢
  subst ht
  cases b <;> cases c <;> simp at h ⊢ <;> omega
theorem sum_split {α : Type} (f : α → Nat) (p : α → Bool) : ∀ L : List α, (L.map f).sum = ((L.filter p).map f).sum + ((L.filter fun x => !p x).map f).sum
  | [] => rfl
  | a :: L => by
    have := sum_split f p L
    cases h : p a <;> simp [h, this] <;> omega
theorem all_same : ∀ (L : List Nat) (m : Nat), L.Nodup → (∀ n ∈ L, n = m) → (L.map fun n => 2 ^ n).sum ≤ 2 ^ m
  | [], m, _, _ => by simp
  | [a], m, _, h => by simp [h a]
  | a :: b :: L, m, nd, h => by
    exfalso
    have h1 := h a (by simp)
    have h2 := h b (by simp)
    rw [List.nodup_cons] at nd
    exact nd.1 (by rw [h1, ← h2]; simp)
theorem pow_sum : ∀ (m : Nat) (L : List Nat), L.Nodup → (∀ n ∈ L, n < m) → (L.map fun n => 2 ^ n).sum < 2 ^ m
  | 0, L, _, h => by
    cases L with
    | nil => simp
    | cons a L => exact absurd (h a (by simp)) (by omega)
  | m + 1, L, nd, h => by
    rw [sum_split _ (fun n => decide (n = m)) L]
    have h1 := all_same (L.filter fun n => decide (n = m)) m (nd.filter _) fun n hn => by simpa using (List.mem_filter.mp hn).2
    have h2 := pow_sum m (L.filter fun n => !decide (n = m)) (nd.filter _) fun n hn => by
      have a := (List.mem_filter.mp hn).1
      have b : n ≠ m := by simpa using (List.mem_filter.mp hn).2
      have := h n a
      omega
    rw [Nat.pow_succ]
    omega
def wt (row : List Rem) : Nat := match row.getLast? with | some y => 2 ^ (13 - rk y) | none => 2 ^ 14
theorem wt_snoc (row : List Rem) (x : Rem) : wt (row ++ [x]) = 2 ^ (13 - rk x) := by
  unfold wt
  rw [List.getLast?_append]
  simp
theorem step_wt {us : List Rem} (h : OneThread us) {row : List Rem} (hr : ∀ x ∈ row, x ∈ us) : ((stepRow us row).map wt).sum ≤ wt row := by
  obtain ⟨nd, t, ht⟩ := h
  unfold stepRow
  rw [List.map_map, show (wt ∘ fun x => row ++ [x]) = (fun n => 2 ^ n) ∘ (fun x => 13 - rk x) by funext x; exact wt_snoc row x, ← List.map_map]
  have inj : ((us.filter (nextOk row)).map fun x => 13 - rk x).Nodup := by
    rw [List.Nodup, List.pairwise_map]
    refine (nd.filter _).imp_of_mem fun {x y} hx hy hne e => hne ?_
    have hx' := ht x (List.mem_filter.mp hx).1
    have hy' := ht y (List.mem_filter.mp hy).1
    have a1 := rk_lt hx'.2
    have a2 := rk_lt hy'.2
    exact rk_inj hx'.2 hy'.2 (hx'.1.trans hy'.1.symm) (by omega)
  unfold wt
  cases hl : row.getLast? with
  | none =>
    refine Nat.le_of_lt (pow_sum 14 _ inj fun n hn => ?_)
    obtain ⟨x, hx, rfl⟩ := List.mem_map.mp hn
    omega
  | some y =>
    have hyr : y ∈ row := List.mem_of_getLast? hl
    have hyu := ht y (hr y hyr)
    refine Nat.le_of_lt (pow_sum (13 - rk y) _ inj fun n hn => ?_)
    obtain ⟨x, hx, rfl⟩ := List.mem_map.mp hn
    obtain ⟨hx1, hx2⟩ := List.mem_filter.mp hx
    have hxu := ht x hx1
    unfold nextOk at hx2
    rw [hl] at hx2
    have hne : row.isEmpty = false := by
      cases row with
      | nil => cases hyr
      | cons _ _ => rfl
    rw [hne, Bool.false_or] at hx2
    have := ltR_rk hyu.2 hxu.2 (hyu.1.trans hxu.1.symm) hx2
    have a1 := rk_lt hxu.2
    omega
theorem sum_flat {α β : Type} (f : β → Nat) (g : α → List β) (W : α → Nat) : ∀ (L : List α), (∀ a ∈ L, ((g a).map f).sum ≤ W a) → (((L.flatMap g).map f).sum) ≤ (L.map W).sum
  | [], _ => by simp
  | a :: L, h => by
    have h1 := h a (by simp)
    have h2 := sum_flat f g W L fun b hb => h b (List.mem_cons_of_mem _ hb)
    simp only [List.flatMap_cons, List.map_append, List.sum_append, List.map_cons, List.sum_cons]
    omega
theorem rows_in {us : List Rem} : ∀ (k : Nat), ∀ row ∈ rowsM us k, row.length = k ∧ ∀ x ∈ row, x ∈ us
  | 0, row, h => by
    have : row = [] := by simpa [rowsM] using h
    subst this
    exact ⟨rfl, fun _ h => by cases h⟩
  | k + 1, row, h => by
    obtain ⟨r0, h1, h2⟩ := List.mem_flatMap.mp h
    obtain ⟨x, hx, rfl⟩ := List.mem_map.mp h2
    obtain ⟨a1, a2⟩ := rows_in k r0 h1
    refine ⟨by rw [List.length_append, a1]; rfl, fun y hy => ?_⟩
    rcases List.mem_append.mp hy with e | e
    · exact a2 y e
    · rw [List.mem_singleton.mp e]
      exact (List.mem_filter.mp hx).1
theorem rows_wt {us : List Rem} (h : OneThread us) : ∀ k, ((rowsM us k).map wt).sum ≤ 2 ^ 14
  | 0 => by simp [rowsM, wt]
  | k + 1 => Nat.le_trans (sum_flat wt (stepRow us) wt _ fun row hr => step_wt h (rows_in k row hr).2) (rows_wt h k)
theorem wt_pos (row : List Rem) : 1 ≤ wt row := by
  unfold wt
  split <;> exact Nat.one_le_two_pow
theorem len_sum {α : Type} (f : α → Nat) : ∀ L : List α, (∀ a ∈ L, 1 ≤ f a) → L.length ≤ (L.map f).sum
  | [], _ => by simp
  | a :: L, h => by
    have h1 := h a (by simp)
    have h2 := len_sum f L fun b hb => h b (List.mem_cons_of_mem _ hb)
    simp only [List.length_cons, List.map_cons, List.sum_cons]
    omega
theorem rows_len {us : List Rem} (h : OneThread us) (k : Nat) : (rowsM us k).length ≤ 16384 :=
  Nat.le_trans (len_sum wt _ fun row _ => wt_pos row) (rows_wt h k)
end RF
set_option Elab.async false
set_option linter.all false
set_option maxRecDepth 100000
set_option maxHeartbeats 8000000
/-! _law_smallest -/
namespace RF
open PySem PySem.Spec L2 LamX NdefX
open PyProof.Rows hiding St
open PySem.W (dataLe dataLt alike alikeAll)

abbrev encRw (row : List Rem) : PyData := .tuple (row.map encR)
def usefulM (rs : List Rem) (ps : List Tri) : List Rem := rs.filter fun x => ps.any fun y => cutsM x y
def covAt (rs : List Rem) (ps : List Tri) (k : Nat) : Bool := (rowsM (usefulM rs ps) k).any fun row => coversM row ps
def SmallAns (rs : List Rem) (ps : List Tri) (d : PyData) : Prop := (ps = [] ∧ d = .int (0 : Nat)) ∨ (ps ≠ [] ∧ ((∃ k : Nat, 1 ≤ k ∧ k ≤ (usefulM rs ps).length ∧ covAt rs ps k = true ∧ (∀ j, 1 ≤ j → j < k → covAt rs ps j = false) ∧ d = .int (k : Nat)) ∨
  ((∀ j, 1 ≤ j → j ≤ (usefulM rs ps).length → covAt rs ps j = false) ∧ d = .none)))
theorem layT (x : Tri) : (encT x).canLay0 = true ∧ (encT x).depth ≤ 10 := by
  obtain ⟨b, t, a⟩ := x
  simp [encT, PyData.canLay0, PyData.canLayAll0, PyData.depth, PyData.depthAll]
theorem shapedTs (rs : List Tri) : SeqAt.shaped (.list (rs.map encT)) = true := shaped_list fun d hd => by
  obtain ⟨x, _, rfl⟩ := List.mem_map.mp hd
  exact layT x
theorem shapedRw (row : List Rem) : SeqAt.shaped (encRw row) = true := by
  have h := shapedRs row
  unfold SeqAt.shaped at h ⊢
  simpa [PyData.canLay0, PyData.depth] using h
theorem shapedT0 : SeqAt.shaped (.tuple []) = true := by decide +kernel
theorem eqv_rw0 (row : List Rem) : PyData.eqv (encRw row) (.tuple []) = row.isEmpty := by
  cases row <;> simp [encRw, PyData.eqv, PyData.eqvAll]
section
variable {P : Program} {w : World} {K : PySem.W.Frag} {mg : Str → Option Value} {base : Heap} {T : List (Addr × Str)} {f : Addr} {fd : FuncData} {k : Nat}
def spSmall (T : List (Addr × Str)) : Sp := fun vs H Q _ => ∃ (r1 r2 : Addr) (xs ys : List V) (rs : List Rem) (ps : List Tri), vs = [.ref r1, .ref r2] ∧ H r1 = some (.lst xs) ∧ H r2 = some (.lst ys) ∧ DtL H xs (rs.map encR) ∧ DtL H ys (ps.map encT) ∧ OneThread rs ∧ rs.length ≤ 1000 ∧ ps.length ≤ 10000 ∧
  ∀ v d H', Le T H H' → Dt H' v d → SmallAns rs ps d → Q v H'
abbrev nSm : List Str := ["_law_some", "_law_known", "_law_useful", "_law_one", "_law_pair", "_law_rows", "_law_many", "_law_longer", "_law_row"]
theorem ok_law_smallest (M : Nm mg) (F : Fun K "_law_smallest" "_law_smallest" (topS 53) f fd) (C1 : Cal P w K mg base k "_law_cut" ["_law_remedy", "_law_pair"] (spR T 2 rCuts)) (C2 : Cal P w K mg base k "_law_covers" ["_law_remedies", "_law_pairs"] (spLC T)) :
    FnOk P w K mg base CX0 (k + 1) f fd ["_law_some", "_law_known"] (spSmall T) := by
  have S : FnScope nSm ["_law_some", "_law_known"] (defScope (topS 53)) := ⟨rfl, rfl, rfl, by decide +kernel, rfl, by decide +kernel, by decide +kernel⟩
  refine fun_okW F S (fun vs H Q E h => ?_) fun X cdv A outer s H vs Q E e c hr h => ?_
  · obtain ⟨r1, r2, xs, ys, rs, ps, rfl, _⟩ := h
    rfl
  subst e
  obtain ⟨r1, r2, xs, ys, rs, ps, rfl, h1, h2, d1, d2, ot, lr, lp, q⟩ := h
  have g : Sg H (L2.start nSm [.ref r1, .ref r2]) [.v (.ref r1), .v (.ref r2), .x, .x, .x, .x, .x, .x, .x] := .cons rfl (.cons rfl (.cons True.intro (.cons True.intro (.cons True.intro (.cons True.intro (.cons True.intro (.cons True.intro (.cons True.intro .nil))))))))
  refine s_if0 (T := T) (eb_eqNil (Nat.lt_of_succ_lt (room65 hr)) (es_lst (ev_v 1 g rfl) h2 d2) (shapedTs ps)) (fun hk H1 l1 => ?_) fun hk H1 l1 => ?_
  · have hp : ps = [] := by
      cases ps with
      | nil => rfl
      | cons _ _ => cases hk
    exact s_retD (T := T) ev_int fun v H2 l2 hv => q v _ H2 (l1.trans l2) hv (.inl ⟨hp, rfl⟩)
  have hp : ps ≠ [] := by
    rintro rfl
    cases hk
  have g1 := g.mono l1.tk
  -- useful
  refine s_setLc (T := T) c 2 g1 (enc := encR) (L := rs) (ei_lst (ev_v 0 g1 rfl) (l1.lst h1) (d1.mono l1.tk)) 3 (fun x => if (ps.any fun y => cutsM x y) = true then some (encR x) else none) (fun x H2 σ2 Xb hx l2 hb g2 => ?_) (by omega) (blkOk_by (N := nSm) (sc := defScope (topS 53)) (own := [("_law_one", 3)]) (by decide +kernel)) (fun ru us σ2 H2 hru l2 hu du g2 => ?_) (sw_true rfl rfl rfl (by decide +kernel))
  · have cb := c.blk hb
    obtain ⟨s0, H0, C, cl, fp, rfl⟩ := hb
    refine ⟨et_one (EB.t (EB.to (k := ps.any fun y => cutsM x y) ?_ (by cases (ps.any fun y => cutsM x y) <;> rfl))), fun d hd => ?_⟩
    · refine EB.to (eb_any (bs := ps.map fun y => cutsM x y) cb ?_ M.any) (by rw [List.any_map]; rfl)
      refine EvL.to (ev_lc cb (enc := encT) (L := ps) (ei_lst (ev_v 1 g2 rfl) (l2.lst (l1.lst h2)) ((d2.mono l1.tk).mono l2.tk)) 4 g2 (fun y => some (.bool (cutsM x y))) (fun y H3 σ3 Xb hy l3 hb g3 => ?_) (by omega) (blkOk_by (N := nSm) (own := [("_law_pair", 4)]) (by show blkC nSm (relS _ (defScope (topS 53))) _ _ = true; decide +kernel))) (by rw [filterMap_some, List.map_map]; rfl)
      obtain ⟨s1, H1', C, cl, fp, rfl⟩ := hb
      refine ⟨et_nil, fun d hd => ?_⟩
      cases hd
      exact ev_callR (ds := [encR x, encT y]) C1 hr (ea_cons (ev_v 3 g3 rfl) (ea_1 (ev_v 4 g3 rfl))) ⟨x, y, rfl, rfl⟩
    · split at hd
      · cases hd
        exact ev_v 3 g2 rfl
      · cases hd
  rw [filterMap_if (fun x => ps.any fun y => cutsM x y)] at du
  have du : DtL H2 us ((usefulM rs ps).map encR) := du
  have otu : OneThread (usefulM rs ps) := ⟨ot.1.filter _, ot.2.imp fun t ht x hx => ht x (List.mem_filter.mp hx).1⟩
  have lu : (usefulM rs ps).length ≤ 1000 := Nat.le_trans (List.length_filter_le _ _) lr
  have g2' : Sg H2 σ2 [.v (.ref r1), .v (.ref r2), .v (.ref ru), .x, .x, .x, .x, .x, .x] := g2
  generalize hus : usefulM rs ps = U at du otu lu
  -- rows = [()]
  refine s_setN (T := T) c 5 g2' (ds := [encRw []]) (ev_lst (ds := [encRw []]) (ea_1 (ev_tup (ds := []) ea_nil))) fun r xr σ3 H3 hr3 l3 hx3 dx3 g3 => ?_
  have g3' : Sg H3 σ3 [.v (.ref r1), .v (.ref r2), .v (.ref ru), .x, .x, .v (.ref r), .x, .x, .x] := g3
  have hn : ((U.length : Int) + 1) = ((U.length + 1 : Nat) : Int) := by omega
  refine s_for (T := T) c (enc := encN) (L := List.range' 1 (U.length + 1 - 1)) (ei_range2 (lo := 1) (n := U.length + 1) (ea_cons ev_int (ea_1 (EvD.to (ev_add (EvD.to (ev_lenL (ev_v 2 g3' rfl) (l3.lst hu) M.len) (by rw [du.len, List.length_map])) ev_int) (by rw [hn])))) (by decide) (by omega) M.range)
    (fun Hs i σ' H' => Le T Hs H' ∧ ∃ r xr, Sg H' σ' [.v (.ref r1), .v (.ref r2), .v (.ref ru), .x, .x, .v (.ref r), .x, .x, .x] ∧ H' r = some (.lst xr) ∧ DtL H' xr ((rowsM U i).map encRw) ∧ ∀ j, 1 ≤ j → j ≤ i → covAt rs ps j = false)
    (fun Hs l => ⟨.refl _, r, xr, g3'.mono l.tk, l.lst hx3, dx3.mono l.tk, fun j a b => by omega⟩) (fun Hs i σ' H' l j => .of j.1) (fun Hs i σ' H' Hb j l => ?_) (fun Hs i x v σ' H' l hxi j dv => ?_) (fun Hs σ' H' l j => ?_)
  · obtain ⟨j1, r, xr, j2, j3, j4, j5⟩ := j
    exact ⟨j1.trans l, r, xr, j2.mono l.tk, l.lst j3, j4.mono l.tk, j5⟩
  · obtain ⟨j1, r, xr, gA, j3, j4, j5⟩ := j
    have lA : Le T H2 H' := l3.trans (l.trans j1)
    have hi : i < U.length ∧ x = 1 + i := by
      obtain ⟨a, b⟩ := List.getElem?_eq_some_iff.mp hxi
      rw [List.length_range'] at a
      rw [List.getElem_range'] at b
      exact ⟨by omega, by omega⟩
    refine g_name c 6 gA (s := .d (encN x)) ⟨v, rfl, dv⟩ fun σB gB => ?_
    have gB' : Sg H' σB [.v (.ref r1), .v (.ref r2), .v (.ref ru), .x, .x, .v (.ref r), .d (encN x), .x, .x] := gB
    refine s_setN (T := T) c 7 gB' (ds := []) (ev_lst (ds := []) ea_nil) fun ql xl σC HC hql lC hxl dxl gC => ?_
    cases dxl
    have gC' : Sg HC σC [.v (.ref r1), .v (.ref r2), .v (.ref ru), .x, .x, .v (.ref r), .d (encN x), .v (.ref ql), .x] := gC
    have hrl : r ≠ ql := fun z => by rw [← z, j3] at hql; cases hql
    have hul : ru ≠ ql := fun z => by rw [← z, lA.lst hu] at hql; cases hql
    have blen := rows_len otu i
    have blen2 := rows_len otu (i + 1)
    have fl : ((rowsM U i).flatMap fun row => (stepRow U row).map encRw).length = (rowsM U (i + 1)).length := by
      show _ = ((rowsM U i).flatMap (stepRow U)).length
      rw [← List.map_flatMap, List.length_map]
    refine s_forA (T := T) c (enc := encRw) (L := rowsM U i) (ei_lst (ev_v 5 gC' rfl) (lC.lst j3) (j4.mono lC.tk)) gC' hxl .nil (fun row => (stepRow U row).map encRw) (fun p hp => by rw [hp]; exact hrl)
      (fun row v σ' H4 zs ds hrow L' g' hp' hz hb dv => ?_) fun σ' H4 zs L' g' hp' hz => ?_
    · refine g_name c 8 g' (s := .d (encRw row)) ⟨v, rfl, dv⟩ fun σD gD => ?_
      have gD' : Sg H4 σD [.v (.ref r1), .v (.ref r2), .v (.ref ru), .x, .x, .v (.ref r), .d (encN x), .v (.ref ql), .d (encRw row)] := gD
      have hz' := hz.len
      have tk4 : Tk HC H4 := L'.tk (at_tup hxl)
      have hu4 : H4 ru = some (.lst us) := L'.lst hul (lC.lst (lA.lst hu))
      have du4 : DtL H4 us (U.map encR) := ((du.mono lA.tk).mono lC.tk).mono tk4
      have rin := (rows_in i row hrow)
      refine s_extend (T := T) (ds := (stepRow U row).map encRw) (ev_v 7 gD' rfl) hp' ?_ ?_ fun zs5 H5 l5 h5 => s_nil ?_
      · refine EvL.to (ev_lc c (enc := encR) (L := U) (ei_lst (ev_v 2 gD' rfl) hu4 du4) 3 gD' (fun y => if nextOk row y = true then some (encRw (row ++ [y])) else none) (fun y H6 σ6 Xb hy l6 hb g6 => ?_) (by omega) (blkOk_by (N := nSm) (sc := defScope (topS 53)) (own := [("_law_one", 3)]) (by decide +kernel))) ?_
        · obtain ⟨s0, H0, C, cl, fp, rfl⟩ := hb
          refine ⟨et_one (EB.t (EB.to (k := nextOk row y) ?_ (by cases nextOk row y <;> rfl))), fun d hd => ?_⟩
          · refine EB.to (eb_or (k := row.isEmpty) (k' := match row.getLast? with | some z => ltR z y | none => false) (EB.to (eb_eq (Nat.lt_of_succ_lt (room65 hr)) (ev_v 8 g6 rfl) (ev_tup (ds := []) ea_nil) (shapedRw row) shapedT0) (eqv_rw0 row)) fun hne => ?_) rfl
            obtain ⟨row0, z, rfl⟩ : ∃ row0 z, row = row0 ++ [z] := by
              rcases List.eq_nil_or_concat row with e | ⟨a, b, e⟩
              · subst e
                cases hne
              · exact ⟨a, b, by simpa using e⟩
            refine EB.to (eb_gtD (d := encR y) (d' := encR z) (Nat.lt_of_succ_lt (room65 hr)) (ev_v 3 g6 rfl) (ev_ix (d := encR z) (ev_v 8 g6 rfl) (ev_neg ev_int) ?_) (by simp [encR, alike, alikeAll]) (by simp) ?_) ?_
            · rw [List.map_append]
              exact atI_last _ _
            · have := (layR y).2
              omega
            · simp only [List.getLast?_append, List.getLast?_singleton, Option.some_or]
              rfl
          · split at hd
            · cases hd
              refine EvD.to (ev_catT (d1 := row.map encR) (d2 := [encR y]) (ev_v 8 g6 rfl) (ev_tup (ds := [encR y]) (ea_1 (ev_v 3 g6 rfl))) ?_) ?_
              · rw [List.length_map, rin.1]
                show i + 1 ≤ _
                omega
              · show _ = PyData.tuple ((row ++ [y]).map encR)
                rw [List.map_append]
                rfl
            · cases hd
        · rw [filterMap_if (nextOk row) (fun y => encRw (row ++ [y]))]
          unfold stepRow
          rw [List.map_map]
          rfl
      · rw [fl] at hb
        simp only [List.length_nil] at hb
        omega
      · have hp5 := l5.lst hp'
        exact ⟨LeX.updL (.of l5) rfl hp5, (((gD'.mono l5.tk).mono (tk_lst hp5)).forget 8), _, upd_same, ((hz.mono l5.tk).append h5).mono (tk_lst hp5)⟩
    · rw [List.nil_append, ← List.map_flatMap] at hz
      have hz : DtL H4 zs ((rowsM U (i + 1)).map encRw) := hz
      have lD : Le T H' H4 := L'.le lC fun b hb => by rw [show b = ql from hb]; exact hql
      -- rows = longer
      refine s_set (T := T) c 5 g' (s := .v (.ref ql)) (ev_v 7 g' rfl) fun v5 σ5 H5 l5 _ g5 => ?_
      have g5' : Sg H5 σ5 [.v (.ref r1), .v (.ref r2), .v (.ref ru), .x, .x, .v (.ref ql), .d (encN x), .v (.ref ql), .x] := g5
      have hp5 := l5.lst hp'
      have hz5 := hz.mono l5.tk
      have l25 : Le T H2 H5 := lA.trans (lD.trans l5)
      have l05 : Le T H H5 := l1.trans (l2.trans l25)
      have hc1 : covAt rs ps (i + 1) = (rowsM U (i + 1)).any fun row => coversM row ps := by unfold covAt; rw [hus]
      refine s_if0 (T := T) (k := (rowsM U (i + 1)).any fun row => coversM row ps) ?_ (fun hcv H6 l6 => ?_) fun hcv H6 l6 => ?_
      · refine EB.to (eb_any (bs := (rowsM U (i + 1)).map fun row => coversM row ps) c ?_ M.any) (by rw [List.any_map]; rfl)
        refine EvL.to (ev_lc c (enc := encRw) (L := rowsM U (i + 1)) (ei_lst (ev_v 5 g5' rfl) hp5 hz5) 8 g5' (fun row => some (.bool (coversM row ps))) (fun row H6 σ6 Xb hrow l6 hb g6 => ?_) (by omega) (blkOk_by (N := nSm) (sc := defScope (topS 53)) (own := [("_law_row", 8)]) (by decide +kernel))) (by rw [filterMap_some, List.map_map]; rfl)
        obtain ⟨s0, H0, C, cl, fp, rfl⟩ := hb
        refine ⟨et_nil, fun d hd => ?_⟩
        cases hd
        refine ev_call (ss := [.d (encRw row), .v (.ref r2)]) C2 hr (ea_cons (ev_v 8 g6 rfl) (ea_1 (ev_v 1 g6 rfl))) fun H7 vs l7 hv Q hQ => ?_
        obtain ⟨v1, v2, rfl, e1, e2⟩ := ss_two hv
        obtain rfl := sl_v e2
        have l07 := l05.trans (l6.trans l7)
        refine ⟨v1, row, .ref r2, ps, rfl, .inr (sl_d e1), .inl ⟨r2, ys, rfl, l07.lst h2, d2.mono l07.tk⟩, ?_, lp, fun v H8 l8 hv => hQ v H8 l8 ⟨_, rfl, hv⟩⟩
        rw [(rows_in (i + 1) row hrow).1]
        omega
      · refine s_retD (T := T) (ev_v 6 (g5'.mono l6.tk) rfl) fun v H7 l7 hv => q v _ H7 (l05.trans (l6.trans l7)) hv (.inr ⟨hp, .inl ⟨1 + i, by omega, by rw [hus]; omega, ?_, fun j a b => j5 j a (by omega), by rw [hi.2]⟩⟩)
        rw [Nat.add_comm, hc1]
        exact hcv
      · refine s_nil ⟨j1.trans (lD.trans (l5.trans l6)), ql, zs, ((((g5'.mono l6.tk).forget 6).forget 7)), l6.lst hp5, hz5.mono l6.tk, fun j a b => ?_⟩
        by_cases e : j ≤ i
        · exact j5 j a e
        · have : j = i + 1 := by omega
          rw [this, hc1]
          exact hcv
  · obtain ⟨j1, r, xr, gA, j3, j4, j5⟩ := j
    rw [List.length_range'] at j5
    refine s_retD (T := T) ev_non fun v H7 l7 hv => q v _ H7 (l1.trans (l2.trans (l3.trans (l.trans (j1.trans l7))))) hv (.inr ⟨hp, .inr ⟨fun j a b => j5 j a (by rw [hus] at b; omega), rfl⟩⟩)
end
end RF
set_option Elab.async false
set_option linter.all false
set_option maxRecDepth 100000
set_option maxHeartbeats 8000000
/-! _law_live, over the promise of _law_goes -/
namespace RF
open PySem PySem.Spec L2 LamX NdefX
open PyProof.Rows hiding St
open PySem.W (dataLe)

def lmeet (i j : Ins) : Bool := i.acc && (j.acc && meetI i j)
def sufM (p : Prog) (one : Ins) (t : Nat) : List Ins := ((p[t]?).getD []).dropWhile fun o => !lmeet one o
def goesM (p : Prog) (goal : Ins) : Nat → Ins → List Nat → Bool
  | 0, _, _ => false
  | k + 1, one, free => free.any fun t => (sufM p one t).any (fun o => lmeet o goal) || (sufM p one t).any fun o => o.acc && goesM p goal k o (free.filter fun f => !decide (f = t))
def freeM (p : Prog) (t : Nat) : List Nat := (List.range p.length).filter fun f => !decide (f = t)
def liveT (p : Prog) (x : Tri) : Bool := match insAt p x.1 x.2.1, insAt p x.1 x.2.2 with
  | some i, some j => goesM p i (freeM p x.1).length j (freeM p x.1)
  | _, _ => false
def liveLM (p : Prog) (wd : Str) (room : Int) : List Tri := (looseM p wd room).filter (liveT p)
def spGoes (T : List (Addr × Str)) : Sp := fun vs H Q _ => ∃ (v1 v2 v3 : V) (r : Addr) (xs : List V) (p : Prog) (i g : Ins) (free : List Nat), vs = [v1, v2, v3, .ref r] ∧ Dt H v1 (encProg p) ∧ Dt H v2 (encI i) ∧ Dt H v3 (encI g) ∧ H r = some (.lst xs) ∧ DtL H xs (free.map encN) ∧ ProgOk p ∧ free.Nodup ∧ (∀ t ∈ free, t < p.length) ∧
  ∀ v H', Le T H H' → Dt H' v (.bool (goesM p g free.length i free)) → Q v H'
abbrev gPs : List Str := ["_law_plan", "_law_one", "_law_goal", "_law_free"]
theorem ss_four {H : Hp} {vs : List V} {a b c d : Sl} (h : SsOk H vs [a, b, c, d]) : ∃ x y z u, vs = [x, y, z, u] ∧ SlOk H (some x) a ∧ SlOk H (some y) b ∧ SlOk H (some z) c ∧ SlOk H (some u) d := by
  cases h with
  | cons q1 t =>
    cases t with
    | cons q2 t =>
      cases t with
      | cons q3 t =>
        cases t with
        | cons q4 t =>
          cases t
          exact ⟨_, _, _, _, rfl, q1, q2, q3, q4⟩
theorem goes_v {T : List (Addr × Str)} {H : Hp} {r : Addr} {xs : List V} {p : Prog} {i g : Ins} {free : List Nat} (hr : H r = some (.lst xs)) (hx : DtL H xs (free.map encN)) (hp : ProgOk p) (nd : free.Nodup) (hf : ∀ t ∈ free, t < p.length) :
    SpV T (spGoes T) H [.d (encProg p), .d (encI i), .d (encI g), .v (.ref r)] (.d (.bool (goesM p g free.length i free))) := fun H1 vs l hv Q q => by
  obtain ⟨x, y, z, u, rfl, e1, e2, e3, e4⟩ := ss_four hv
  obtain rfl := sl_v e4
  exact ⟨x, y, z, r, xs, p, i, g, free, rfl, sl_d e1, sl_d e2, sl_d e3, l.lst hr, hx.mono l.tk, hp, nd, hf, fun v H2 l2 hv => q v H2 l2 ⟨_, rfl, hv⟩⟩
section
variable {P : Program} {w : World} {K : PySem.W.Frag} {mg : Str → Option Value} {base : Heap} {T : List (Addr × Str)} {f : Addr} {fd : FuncData} {k : Nat}
def rLiveL : List PyData → List PyData → Prop := fun ds es => ∃ (p : Prog) (wd : Str) (room : Int), ProgOk p ∧ ds = [encProg p, encBuf wd room] ∧ es = (liveLM p wd room).map encT
abbrev nLv : List Str := ["_law_plan", "_law_box_here", "_law_found", "_law_thread", "_law_early", "_law_late", "_law_free", "_law_far"]
theorem ok_law_live (M : Nm mg) (F : Fun K "_law_live" "_law_live" (topS 49) f fd) (C1 : Cal P w K mg base k "_law_loose" ["_law_plan", "_law_box_here"] (spRL T 2 rLooseL)) (C2 : Cal P w K mg base k "_law_goes" gPs (spGoes T)) :
    FnOk P w K mg base CX0 (k + 1) f fd ["_law_plan", "_law_box_here"] (spRL T 2 rLiveL) := by
  have S : FnScope nLv ["_law_plan", "_law_box_here"] (defScope (topS 49)) := ⟨rfl, rfl, rfl, by decide +kernel, rfl, by decide +kernel, by decide +kernel⟩
  refine fun_okW F S (fun _ _ _ _ h => spRL_len h) fun X cdv A outer s H vs Q E e c hr h => ?_
  subst e
  obtain ⟨ds, es, _, hd, ⟨p, wd, room, hp, rfl, rfl⟩, q⟩ := h
  have g : Sg H (L2.start nLv vs) [.d (encProg p), .d (encBuf wd room), .x, .x, .x, .x, .x, .x] := startN hd
  have hll := looseM_le p wd room hp
  refine s_setN (T := T) c 2 g (ev_lst (ds := []) ea_nil) fun q0 xs σ2 H2 hq l2 hq2 hxs g2 => ?_
  cases hxs
  refine s_forA (T := T) c (enc := encT) (L := looseM p wd room) (ei_new (ev_callRL (ds := [encProg p, encBuf wd room]) C1 hr (ea_cons (ev_v 0 g2 rfl) (ea_1 (ev_v 1 g2 rfl))) ⟨p, wd, room, hp, rfl, rfl⟩)) (δ := [.d (encProg p), .d (encBuf wd room), .v (.ref q0), .x, .x, .x, .x, .x]) g2 hq2 .nil
    (fun x => if liveT p x = true then [encT x] else []) (fun r hr z => by rw [z, hq2] at hr; cases hr) (fun x v σ' H' ys ds hx L' g' hp' hy hb dv => ?_) fun σ' H' ys L' g' hp' hy => ?_
  · obtain ⟨i, j, hi, hj, _, _, hel⟩ := loose_mem hx
    obtain ⟨t, e, l⟩ := x
    simp only at hi hj hel
    have hlive : liveT p (t, e, l) = goesM p i (freeM p t).length j (freeM p t) := by
      unfold liveT
      simp only [hi, hj]
    obtain ⟨r0, h0, h1⟩ := insAt_row hi
    obtain ⟨r1, h2, h3⟩ := insAt_row hj
    rw [h0] at h2
    cases h2
    refine g_tup3 c 3 4 5 g' ⟨_, rfl, dv⟩ fun σ3 g3 => ?_
    have g3' : Sg H' σ3 [.d (encProg p), .d (encBuf wd room), .v (.ref q0), .d (.int (t : Int)), .d (.int (e : Int)), .d (.int (l : Int)), .x, .x] := g3
    have hpl := hp.1
    refine s_setLc (T := T) c 6 g3' (enc := encN) (L := List.range p.length) (ei_range1 (ea_1 (EvD.to (ev_lenT (ds := p.map encRow) (ev_v 0 g3' rfl) M.len) (by rw [List.length_map]))) (by omega) M.range) 7 (fun f => if (!decide (f = t)) = true then some (encN f) else none) (fun f H4 σ4 Xb hf l4 hb g4 => ?_) (by rw [List.length_range]; omega) (blkOk_by (N := nLv) (sc := defScope (topS 49)) (own := [("_law_far", 7)]) (by decide +kernel)) (fun rf fs σ4 H4 hrf l4 hf4 df4 g4 => ?_) (sw_true rfl rfl rfl (by decide +kernel))
    · obtain ⟨s0, H0, C, cl, fp, rfl⟩ := hb
      refine ⟨et_one (EB.t (EB.to (eb_neI (x := (f : Int)) (y := (t : Int)) (ev_v 7 g4 rfl) (ev_v 3 g4 rfl)) ?_)), fun d hd => ?_⟩
      · by_cases hft : f = t <;> simp [hft, Int.natCast_inj]
      · split at hd
        · cases hd
          exact ev_v 7 g4 rfl
        · cases hd
    rw [filterMap_if (fun f => !decide (f = t))] at df4
    have df4 : DtL H4 fs ((freeM p t).map encN) := df4
    have g4' : Sg H4 σ4 [.d (encProg p), .d (encBuf wd room), .v (.ref q0), .d (.int (t : Int)), .d (.int (e : Int)), .d (.int (l : Int)), .v (.ref rf), .x] := g4
    have fnd : (freeM p t).Nodup := List.nodup_range.filter _
    have frl : ∀ f ∈ freeM p t, f < p.length := fun f hf => List.mem_range.mp (List.mem_filter.mp hf).1
    have hy' := hy.len
    have hfl := flat_le (fun x => if liveT p x = true then [encT x] else []) 1 (looseM p wd room) (fun x _ => by split <;> simp)
    simp only [List.length_nil] at hb
    refine s_if0 (T := T) (k := liveT p (t, e, l)) ?_ (fun h H5 l5 => ?_) fun h H5 l5 => ?_
    · refine EB.to (eb_val (ev_call (ss := [.d (encProg p), .d (encI j), .d (encI i), .v (.ref rf)]) C2 hr (ea_cons (ev_v 0 g4' rfl) (ea_cons ?_ (ea_cons ?_ (ea_1 (ev_v 6 g4' rfl))))) (goes_v hf4 df4 hp fnd frl))) hlive.symm
      · exact ev_ix (d := encI j) (ev_ix (d := encRow r0) (ev_v 0 g4' rfl) (ev_v 3 g4' rfl) (atI_map h0)) (ev_v 5 g4' rfl) (atI_map h3)
      · exact ev_ix (d := encI i) (ev_ix (d := encRow r0) (ev_v 0 g4' rfl) (ev_v 3 g4' rfl) (atI_map h0)) (ev_v 4 g4' rfl) (atI_map h1)
    · have g5 := g4'.mono l5.tk
      have hp5 := l5.lst (l4.lst hp')
      refine s_append (T := T) (ev_v 2 g5 rfl) hp5 (by omega) (ev_tup (ds := [.int t, .int e, .int l]) (ea_cons (ev_v 3 g5 rfl) (ea_cons (ev_v 4 g5 rfl) (ea_1 (ev_v 5 g5 rfl))))) fun v6 H6 l6 hv6 => s_nil ?_
      have hp6 := l6.lst hp5
      refine s_nil ⟨LeX.updL (.of (l4.trans (l5.trans l6))) rfl hp6, ((((g5.mono l6.tk).mono (tk_lst hp6)).forget 3).forget 4).forget 5 |>.forget 6, _, upd_same, ?_⟩
      rw [if_pos h]
      exact ((hy.mono (l4.trans (l5.trans l6)).tk).append (.cons (sl_d hv6) .nil)).mono (tk_lst hp6)
    · refine s_nil ⟨.of (l4.trans l5), ((((g4'.mono l5.tk).forget 3).forget 4).forget 5).forget 6, ys, l5.lst (l4.lst hp'), ?_⟩
      rw [if_neg (by rw [h]; exact Bool.false_ne_true), List.append_nil]
      exact hy.mono (l4.trans l5).tk
  · refine s_retL (T := T) (ev_v 2 g' rfl) hp' fun H3 l3 hr3 => q q0 ys H3 hq ((L'.le l2 fun b hb => ?_).trans l3) hr3 ?_
    · rw [show b = q0 from hb]
      exact hq
    · rw [List.nil_append] at hy
      have e : (liveLM p wd room).map encT = (looseM p wd room).flatMap fun x => if liveT p x = true then [encT x] else [] := by
        unfold liveLM
        induction looseM p wd room with
        | nil => rfl
        | cons a L ih => cases h : liveT p a <;> simp [h, ih]
      rw [e]
      exact hy.mono l3.tk
end
end RF
set_option Elab.async false
set_option linter.all false
set_option maxRecDepth 100000
set_option maxHeartbeats 8000000
/-! what _law_right needs of plain facts -/
namespace RF
open PySem PySem.Spec L2 LamX NdefX
open PySem.W (dataLe)

def mineM (p : Prog) (wd : Str) (room : Int) (t : Nat) : List Tri := (liveLM p wd room).filter fun y => decide (y.1 = t)
def pickM (p : Prog) (t : Nat) (ws : List Bool) : List Rem := (everyM p).filter fun x => decide (x.2.1 = t) && decide (x.1 ∈ ws)
def kB (p : Prog) (wd : Str) (room : Int) (b : Bool) (t : Nat) : Nat := ((ftlM p b wd room).1.filter fun x => decide (x.2.1 = t)).length
def sumTo (k : Nat → Nat) : Nat → Nat
  | 0 => 0
  | n + 1 => sumTo k n + k n
structure PlainLaw (p : Prog) (wd : Str) (room : Int) (k2 : Nat → Nat) : Prop where
  one : ∀ t, t < p.length → ∀ b d, SmallAns (pickM p t [b]) (mineM p wd room t) d → d = .int (kB p wd room b t : Nat)
  two : ∀ t, t < p.length → ∀ d, SmallAns (pickM p t [false, true]) (mineM p wd room t) d → d = .int (k2 t : Nat)
  prs : ∀ t b, (((ftlM p b wd room).2.mergeSort (dataLe false encT)).filter fun y => decide (y.1 = t)).length = kB p wd room b t
  cut : ∀ y ∈ liveM p wd room, (everyM p).filter (fun x => cutsM x y) ≠ []
  tot : (cheapM p wd room (everyM p)).length = sumTo k2 p.length
  le : ∀ b, sumTo k2 p.length ≤ sumTo (kB p wd room b) p.length
theorem zip_pair {α : Type} : ∀ (l : List α) (n : Nat), (l.zipIdx n).Pairwise fun a b => a.2 ≠ b.2
  | [], _ => .nil
  | a :: l, n => by
    rw [List.zipIdx_cons, List.pairwise_cons]
    refine ⟨fun b hb => ?_, zip_pair l (n + 1)⟩
    have := List.mem_zipIdx hb
    show n ≠ b.2
    omega
theorem every_mem {p : Prog} {x : Rem} : x ∈ everyM p ↔ ∃ r, p[x.2.1]? = some r ∧ (if x.1 = true then ∃ i, r[x.2.2]? = some i ∧ i.isSt = true else x.2.2 ≤ r.length) := by
  obtain ⟨b, t, a⟩ := x
  unfold everyM
  rw [List.mem_append, List.mem_flatMap, List.mem_flatMap]
  constructor
  · rintro (⟨⟨r, t'⟩, h1, h2⟩ | ⟨⟨r, t'⟩, h1, h2⟩)
    · unfold everyF at h2
      obtain ⟨a', ha, e⟩ := List.mem_map.mp h2
      cases e
      rw [List.mem_range] at ha
      exact ⟨r, (mem_zipIdx_row h1).2, by simp; simpa using Nat.le_of_lt_succ ha⟩
    · unfold everyW at h2
      obtain ⟨⟨i, a'⟩, ha, e⟩ := List.mem_map.mp h2
      cases e
      obtain ⟨ha1, ha2⟩ := List.mem_filter.mp ha
      exact ⟨r, (mem_zipIdx_row h1).2, by simp; exact ⟨i, (List.mem_zipIdx_iff_getElem?.mp ha1), ha2⟩⟩
  · rintro ⟨r, h1, h2⟩
    have hz : (r, t) ∈ p.zipIdx := List.mem_zipIdx_iff_getElem?.mpr h1
    cases b with
    | false =>
      simp at h2
      exact .inl ⟨(r, t), hz, List.mem_map.mpr ⟨a, List.mem_range.mpr (by simp; omega), rfl⟩⟩
    | true =>
      simp at h2
      obtain ⟨i, h3, h4⟩ := h2
      exact .inr ⟨(r, t), hz, List.mem_map.mpr ⟨(i, a), List.mem_filter.mpr ⟨List.mem_zipIdx_iff_getElem?.mpr h3, h4⟩, rfl⟩⟩
theorem every_nodup (p : Prog) : (everyM p).Nodup := by
  unfold everyM
  rw [List.nodup_append]
  refine ⟨?_, ?_, fun x hx y hy => ?_⟩
  · rw [List.Nodup, List.pairwise_flatMap]
    refine ⟨fun x hx => ?_, (zip_pair p 0).imp fun {a b} h x hx y hy e => ?_⟩
    · unfold everyF
      rw [List.pairwise_map]
      exact (List.nodup_range (n := x.1.length + 1)).imp fun h e => h (by cases e; rfl)
    · unfold everyF at hx hy
      obtain ⟨_, _, rfl⟩ := List.mem_map.mp hx
      obtain ⟨_, _, rfl⟩ := List.mem_map.mp hy
      simp only [Prod.mk.injEq] at e
      exact h e.2.1
  · rw [List.Nodup, List.pairwise_flatMap]
    refine ⟨fun x hx => ?_, (zip_pair p 0).imp fun {a b} h x hx y hy e => ?_⟩
    · unfold everyW
      rw [List.pairwise_map]
      refine ((zip_pair x.1 0).filter _).imp fun h e => h ?_
      simp only [Prod.mk.injEq] at e
      exact e.2.2
    · unfold everyW at hx hy
      obtain ⟨_, _, rfl⟩ := List.mem_map.mp hx
      obtain ⟨_, _, rfl⟩ := List.mem_map.mp hy
      simp only [Prod.mk.injEq] at e
      exact h e.2.1
  · obtain ⟨_, _, hx⟩ := List.mem_flatMap.mp hx
    obtain ⟨_, _, hy⟩ := List.mem_flatMap.mp hy
    unfold everyF at hx
    unfold everyW at hy
    obtain ⟨_, _, rfl⟩ := List.mem_map.mp hx
    obtain ⟨_, _, rfl⟩ := List.mem_map.mp hy
    simp
theorem pick_one {p : Prog} (h : ∀ r ∈ p, r.length ≤ 6) (t : Nat) (ws : List Bool) : OneThread (pickM p t ws) := by
  refine ⟨(every_nodup p).filter _, t, fun x hx => ?_⟩
  obtain ⟨h1, h2⟩ := List.mem_filter.mp hx
  rw [Bool.and_eq_true, decide_eq_true_eq] at h2
  refine ⟨h2.1, ?_⟩
  obtain ⟨r, h3, h4⟩ := every_mem.mp h1
  have hr := h r (List.mem_of_getElem? h3)
  split at h4
  · obtain ⟨i, h5, _⟩ := h4
    have := (List.getElem?_eq_some_iff.mp h5).1
    omega
  · omega
end RF
set_option Elab.async false
set_option linter.all false
set_option maxRecDepth 100000
set_option maxHeartbeats 8000000
/-! _law_right, over the plain facts -/
namespace RF
open PySem PySem.Spec L2 LamX NdefX
open PyProof.Rows hiding St
open PySem.W (dataLe)

theorem ss_one {H : Hp} {vs : List V} {a : Sl} (h : SsOk H vs [a]) : ∃ x, vs = [x] ∧ SlOk H (some x) a := by
  cases h with
  | cons q1 t =>
    cases t
    exact ⟨_, rfl, q1⟩
theorem NearOk.prog {p : Prog} (h : NearOk p) : ProgOk p := ⟨Nat.le_trans h.1 (by decide), fun r hr => ⟨Nat.le_trans (h.2 r hr).1 (by decide), fun i hi x hx => pool_ok x ((h.2 r hr).2 i hi x hx)⟩⟩
/-- the sums while thread t is at word number i -/
def valM (kk : Nat → Nat → Nat) (t i n : Nat) : Nat := if n < i then sumTo (kk n) (t + 1) else sumTo (kk n) t
abbrev sumV (kk : Nat → Nat → Nat) (t i : Nat) : List V := [.int (valM kk t i 0 : Nat), .int (valM kk t i 1 : Nat), .int (valM kk t i 2 : Nat)]
abbrev sumD (kk : Nat → Nat → Nat) (t i : Nat) : List PyData := [.int (valM kk t i 0 : Nat), .int (valM kk t i 1 : Nat), .int (valM kk t i 2 : Nat)]
theorem sum_dt (H : Hp) (kk : Nat → Nat → Nat) (t i : Nat) : DtL H (sumV kk t i) (sumD kk t i) := .cons (.int _) (.cons (.int _) (.cons (.int _) .nil))
theorem val_at (kk : Nat → Nat → Nat) (t : Nat) {i : Nat} (hi : i < 3) : L2.atI (sumD kk t i) (i : Int) = some (.int (sumTo (kk i) t : Nat)) := by
  match i, hi with
  | 0, _ => rfl
  | 1, _ => rfl
  | 2, _ => rfl
theorem val_set (kk : Nat → Nat → Nat) (t : Nat) {i : Nat} (hi : i < 3) : (sumV kk t i).set i (.int ((sumTo (kk i) t : Nat) + (kk i t : Nat) : Int)) = sumV kk t (i + 1) := by
  match i, hi with
  | 0, _ => rfl
  | 1, _ => rfl
  | 2, _ => rfl
theorem val_next (kk : Nat → Nat → Nat) (t : Nat) : sumV kk t 3 = sumV kk (t + 1) 0 := rfl
abbrev encW (ws : List Bool) : PyData := .tuple ((ws.map wordOf).map .str)
abbrev wsL : List (List Bool) := [[false], [true], [false, true]]
theorem word_in (b : Bool) (ws : List Bool) : decide (wordOf b ∈ ws.map wordOf) = decide (b ∈ ws) := by
  rw [decide_eq_decide]
  constructor
  · intro h
    obtain ⟨c, h1, h2⟩ := List.mem_map.mp h
    have : c = b := wordOf_inj h2
    exact this ▸ h1
  · exact fun h => List.mem_map.mpr ⟨b, h, rfl⟩
end RF
set_option Elab.async false
set_option linter.all false
set_option maxRecDepth 100000
set_option maxHeartbeats 8000000
/-! _law_right: the walk -/
namespace RF
open PySem PySem.Spec L2 LamX NdefX
open PyProof.Rows hiding St
open PySem.W (dataLe)
section
variable {T : List (Addr × Str)} {X : Cx} {e a b o : Expr} {σ : St} {H : Hp} {δ : List Sl} {pos p : Pos} {rest : List Stmt} {D : Ends} {i j : Int}
theorem ev_min2 (c : Fx X) (ha : EvD T X a σ H (.int i)) (hb : EvD T X b σ H (.int j)) (hm : X.mg "min" = none) (hg : Gl X "min" := by rfl) (hst : starEach [a, b] X.env = (false, eval a X.env) :: starEach [b] X.env := by rfl) (hst2 : starEach [b] X.env = (false, eval b X.env) :: starEach [] X.env := by rfl)
    (hpl : (backTo pos (starEach [b] X.env)).any (·.1) = false := by rfl) : EvD T X (.Call (.Name "min" p) [a, b] [] pos) σ H (.int (if j < i then j else i)) := fun H1 l Q q => by
  refine w_pe (pe_callB (call_min2 c.calm) hg hm boot_min (pa_cons pe_w (pa_cons pe_w pa_nil hst2) hst) (by decide) (by decide) hst hpl) (ha H1 l _ fun v H2 l2 h2 => hb H2 (l.trans l2) _ fun w H3 l3 h3 => ?_)
  obtain rfl := (sl_d h2).inv_int
  obtain rfl := (sl_d h3).inv_int
  exact ⟨i, j, rfl, q _ H3 (l2.trans l3) ⟨_, rfl, .int _⟩⟩
theorem s_asgW {tg : Expr} (h : wE X e σ H fun v H' => wG X tg v σ H' (wSs X rest D)) (hs : swapsWithSole [tg] e pos.line X.env = pure false := by rfl) (hw : swappedStores [tg] e X.env = pure none := by rfl)
    (h1 : (assignEach [tg] X.env).map (·.2) = [assign tg X.env] := by rfl) : wSs X (.Assign [tg] e pos :: rest) D σ H := s_cons (w_ps (ps_asg pe_w pg_w hs hw h1) h)
end
section
variable {P : Program} {w : World} {K : PySem.W.Frag} {mg : Str → Option Value} {base : Heap} {T : List (Addr × Str)} {f : Addr} {fd : FuncData} {k : Nat}
theorem ftlM_len (p : Prog) (hp : ProgOk p) (b : Bool) (wd : Str) (room : Int) : (ftlM p b wd room).1.length ≤ 1536 ∧ (ftlM p b wd room).2.length ≤ 1536 := by
  have h := ftl_le (remsM p b) ((liveM p wd room).mergeSort (dataLe false (keyF (remsM p b)))) ([], [])
  rw [List.length_mergeSort] at h
  have hl := liveM_le p hp wd room
  unfold ftlM
  simp only [List.length_nil] at h
  exact ⟨by omega, by omega⟩
def spRight (T : List (Addr × Str)) : Sp := fun vs H Q _ => ∃ (u : Addr) (n : Nat), vs = [.ref u] ∧ UrnAt H u n ∧ n ≤ 80000 ∧ Tabs T H ∧ ∀ v H', LeX T (At u) H H' → UrnAt H' u (n + 28) → Dt H' v (.bool true) → Q v H'
abbrev nRt : List Str := ["_law_urn_here", "_law_plan", "_law_box_here", "_law_every_here", "_law_known", "_law_sums", "_law_thread", "_law_mine", "_law_pair", "_law_nth", "_law_words", "_law_some", "_law_one", "_law_many", "_law_told", "_law_total", "_law_bought"]
theorem ok_law_right (M : Nm mg) (PL : ∀ p wd room, NearOk p → IsBox wd room → ∃ k2, PlainLaw p wd room k2) (F : Fun K "_law_right" "_law_right" (topS 54) f fd)
    (C1 : Cal P w K mg base k "_law_near" ["_law_urn_here"] (spNear T)) (C2 : Cal P w K mg base k "_law_box" ["_law_urn_here"] (spBox T)) (C3 : Cal P w K mg base k "_law_every" ["_law_plan"] (spRL T 1 rEvery))
    (C4 : Cal P w K mg base k "_law_live" ["_law_plan", "_law_box_here"] (spRL T 2 rLiveL)) (C5 : Cal P w K mg base k "_law_smallest" ["_law_some", "_law_known"] (spSmall T)) (C6 : Cal P w K mg base k "fewest" nPbw (spRT T 3 rFew))
    (C7 : Cal P w K mg base k "apart" nPbw (spRT T 3 rApart)) (C8 : Cal P w K mg base k "cheapest" ["program", "buffers", "price_list"] (spCheap T)) :
    FnOk P w K mg base CX0 (k + 1) f fd ["_law_urn_here"] (spRight T) := by
  have S : FnScope nRt ["_law_urn_here"] (defScope (topS 54)) := ⟨rfl, rfl, rfl, by decide +kernel, rfl, by decide +kernel, by decide +kernel⟩
  refine fun_okW F S (fun vs H Q E h => ?_) fun X cdv A outer s H vs Q E e cx hr h => ?_
  · obtain ⟨u, n, rfl, _⟩ := h
    rfl
  subst e
  obtain ⟨u, n, rfl, hu, hn, hT, q⟩ := h
  have g : Sg H (L2.start nRt [.ref u]) [.v (.ref u), .x, .x, .x, .x, .x, .x, .x, .x, .x, .x, .x, .x, .x, .x, .x, .x] := by
    refine .cons rfl ?_
    repeat (first | exact .nil | refine .cons True.intro ?_)
  refine s_cons (w_ps (ps_par cx.calm cx.nd (i := 1) (j := 2) rfl rfl (by decide) rfl rfl (pa_cons pe_w (pa_cons pe_w pa_nil)) (by rfl) (by rfl)) ?_)
  refine w_call (T := T) (ss := [.v (.ref u)]) C1 hr (ea_1 (ev_v 0 g rfl)) fun vs H1 l1 hv => ?_
  obtain ⟨x, rfl, ex⟩ := ss_one hv
  obtain rfl := sl_v ex
  refine ⟨u, n, rfl, hu.le l1, by omega, fun v1 p H2 lx2 hu2 hp1 hnear => ?_⟩
  have lx02 : LeX T (At u) H H2 := (LeX.of l1).trans lx2
  have g2 := g.mono (hu.tk lx02)
  refine w_call (T := T) (ss := [.v (.ref u)]) C2 hr (ea_1 (ev_v 0 g2 rfl)) fun vs H3 l3 hv => ?_
  obtain ⟨x, rfl, ex⟩ := ss_one hv
  obtain rfl := sl_v ex
  refine ⟨u, n + 26, rfl, hu2.le l3, by omega, fun v2 wd room H4 lx4 hu4 hbox hd2 => ⟨_, _, rfl, ?_⟩⟩
  have lx24 : LeX T (At u) H2 H4 := (LeX.of l3).trans lx4
  have lx04 : LeX T (At u) H H4 := lx02.trans lx24
  have hpo := hnear.prog
  obtain ⟨k2, pl⟩ := PL p wd room hnear hbox
  have g4 : Sg H4 (((L2.start nRt [.ref u]).set 1 (some v1)).set 2 (some v2)) [.v (.ref u), .d (encProg p), .d (encBuf wd room), .x, .x, .x, .x, .x, .x, .x, .x, .x, .x, .x, .x, .x, .x] :=
    ((g2.mono (hu2.tk lx24)).set (s := .d (encProg p)) ⟨_, rfl, hp1.mono (hu2.tk lx24)⟩ 1).set (s := .d (encBuf wd room)) ⟨_, rfl, hd2⟩ 2
  generalize ((L2.start nRt [V.ref u]).set 1 (some v1)).set 2 (some v2) = σ4 at g4 ⊢
  have hT4 : Tabs T H4 := lx04.tb hT
  refine s_parL (T := T) cx 3 4 g4 (ev_callRL (ds := [encProg p]) C3 hr (ea_1 (ev_v 1 g4 rfl)) ⟨p, hpo, rfl, rfl⟩) (ev_callRL (ds := [encProg p, encBuf wd room]) C4 hr (ea_cons (ev_v 1 g4 rfl) (ea_1 (ev_v 2 g4 rfl))) ⟨p, wd, room, hpo, rfl, rfl⟩) fun qe qk xe xk σ5 H5 ne nk nek l5 he de hk dk g5 => ?_
  have g5' : Sg H5 σ5 [.v (.ref u), .d (encProg p), .d (encBuf wd room), .v (.ref qe), .v (.ref qk), .x, .x, .x, .x, .x, .x, .x, .x, .x, .x, .x, .x] := g5
  let kk : Nat → Nat → Nat := fun n => match n with
    | 0 => kB p wd room false
    | 1 => kB p wd room true
    | _ => k2
  refine s_setN (T := T) cx 5 g5' (ds := sumD kk 0 0) (ev_lst (ds := [.int 0, .int 0, .int 0]) (ea_cons ev_int (ea_cons ev_int (ea_1 ev_int)))) fun ps xs0 σ6 H6 nps l6 hps dps g6 => ?_
  have hps : H6 ps = some (.lst (sumV kk 0 0)) := by
    rw [hps]
    congr 2
    exact vals_int (bs := [0, 0, 0]) dps
  have g6' : Sg H6 σ6 [.v (.ref u), .d (encProg p), .d (encBuf wd room), .v (.ref qe), .v (.ref qk), .v (.ref ps), .x, .x, .x, .x, .x, .x, .x, .x, .x, .x, .x] := g6
  have hpl := hnear.1
  have hell := everyF_le p hpo
  have hwll := everyW_le p hpo
  have hel : (everyM p).length ≤ 204 := by
    unfold everyM
    rw [List.length_append]
    omega
  have hkl : (liveLM p wd room).length ≤ 1536 := Nat.le_trans (List.length_filter_le _ _) (looseM_le p wd room hpo)
  refine s_for (T := T) cx (enc := encN) (L := List.range p.length) (ei_range1 (ea_1 (EvD.to (ev_lenT (ds := p.map encRow) (ev_v 1 g6' rfl) M.len) (by rw [List.length_map]))) (by omega) M.range)
    (fun Hs i σ' H' => Tk Hs H' ∧ Le T H5 H' ∧ Sg H' σ' [.v (.ref u), .d (encProg p), .d (encBuf wd room), .v (.ref qe), .v (.ref qk), .v (.ref ps), .x, .x, .x, .x, .x, .x, .x, .x, .x, .x, .x] ∧ H' ps = some (.lst (sumV kk i 0)))
    (fun Hs l => ⟨.refl _, l6.trans l, g6'.mono l.tk, l.lst hps⟩) (fun Hs i σ' H' l j => ⟨j.1, fun _ _ z => z.elim⟩) (fun Hs i σ' H' H2 j l => ⟨j.1.trans l.tk, j.2.1.trans l, j.2.2.1.mono l.tk, l.lst j.2.2.2⟩) (fun Hs t x v σ' H' l hxi j dv => ?_) (fun Hs σ' H' l j => ?_)
  · obtain ⟨tk0, le0, gA, hsA⟩ := j
    have ht : t < p.length ∧ x = t := by
      obtain ⟨a, b⟩ := List.getElem?_eq_some_iff.mp hxi
      rw [List.length_range] at a
      rw [List.getElem_range] at b
      exact ⟨a, b.symm⟩
    obtain ⟨ht, rfl⟩ := ht
    refine g_name cx 6 gA (s := .d (encN x)) ⟨v, rfl, dv⟩ fun σB gB => ?_
    have gB' : Sg H' σB [.v (.ref u), .d (encProg p), .d (encBuf wd room), .v (.ref qe), .v (.ref qk), .v (.ref ps), .d (.int (x : Int)), .x, .x, .x, .x, .x, .x, .x, .x, .x, .x] := gB
    refine s_setLc (T := T) cx 7 gB' (enc := encT) (L := liveLM p wd room) (ei_lst (ev_v 4 gB' rfl) (le0.lst hk) (dk.mono le0.tk)) 8 (fun y => if decide (y.1 = x) = true then some (encT y) else none) (fun y H7 σ7 Xb hy l7 hb g7 => ?_) (by omega) (blkOk_by (N := nRt) (sc := defScope (topS 54)) (own := [("_law_pair", 8)]) (by decide +kernel)) (fun qm ms σ7 H7 nqm l7 hms dms g7 => ?_) (sw_true rfl rfl rfl (by decide +kernel))
    · obtain ⟨s0, H0, C, cl, fp, rfl⟩ := hb
      refine ⟨et_one (EB.t (EB.to (eb_eqI (x := (y.1 : Int)) (y := (x : Int)) (ev_ix (d := .int (y.1 : Int)) (ev_v 8 g7 rfl) ev_int rfl) (ev_v 6 g7 rfl)) ?_)), fun d hd => ?_⟩
      · by_cases hyx : y.1 = x <;> simp [hyx, Int.natCast_inj]
      · split at hd
        · cases hd
          exact ev_v 8 g7 rfl
        · cases hd
    rw [filterMap_if (fun y : Tri => decide (y.1 = x))] at dms
    have dms : DtL H7 ms ((mineM p wd room x).map encT) := dms
    have g7' : Sg H7 σ7 [.v (.ref u), .d (encProg p), .d (encBuf wd room), .v (.ref qe), .v (.ref qk), .v (.ref ps), .d (.int (x : Int)), .v (.ref qm), .x, .x, .x, .x, .x, .x, .x, .x, .x] := g7
    have le7 : Le T H5 H7 := le0.trans l7
    -- the words
    have hkk : ∀ i, i < 3 → ∀ ws, wsL[i]? = some ws → ∀ d, SmallAns (pickM p x ws) (mineM p wd room x) d → d = .int (kk i x : Nat) := by
      intro i hi ws hw d hd
      match i, hi with
      | 0, _ => cases hw; exact pl.one x ht false d hd
      | 1, _ => cases hw; exact pl.one x ht true d hd
      | 2, _ => cases hw; exact pl.two x ht d hd
    refine s_for (T := T) cx (enc := encE encW) (L := wsL.zipIdx) (ei_enumT (ev_tup (ds := [encW [false], encW [true], encW [false, true]]) (ea_cons (ev_tup (ds := [.str kFe]) (ea_1 ev_str)) (ea_cons (ev_tup (ds := [.str kSw]) (ea_1 ev_str)) (ea_1 (ev_tup (ds := [.str kFe, .str kSw]) (ea_cons ev_str (ea_1 ev_str))))))) M.enumerate)
      (fun Hb i σ' H' => Tk Hb H' ∧ Le T H5 H' ∧ Tk H7 H' ∧ Sg H' σ' [.v (.ref u), .d (encProg p), .d (encBuf wd room), .v (.ref qe), .v (.ref qk), .v (.ref ps), .d (.int (x : Int)), .v (.ref qm), .x, .x, .x, .x, .x, .x, .x, .x, .x] ∧ H' ps = some (.lst (sumV kk x i)) ∧ H' qm = some (.lst ms))
      (fun Hb l => ⟨.refl _, le7.trans l, l.tk, g7'.mono l.tk, l.lst (l7.lst hsA), l.lst hms⟩) (fun Hb i σ' H' l j => ⟨j.1, fun _ _ z => z.elim⟩) (fun Hb i σ' H' H2 j l => ⟨j.1.trans l.tk, j.2.1.trans l, j.2.2.1.trans l.tk, j.2.2.2.1.mono l.tk, l.lst j.2.2.2.2.1, l.lst j.2.2.2.2.2⟩) (fun Hb i z v σ' H8 lb hzi j dv => ?_) (fun Hb σ' H8 lb j => ?_)
    · obtain ⟨ws, t'⟩ := z
      obtain ⟨tkb, le8, tk8, g8, hs8, hm8⟩ := j
      have hw : wsL[i]? = some ws ∧ t' = i := by
        rw [List.getElem?_zipIdx] at hzi
        cases hq : wsL[i]? with
        | none => rw [hq] at hzi; cases hzi
        | some w0 =>
          rw [hq] at hzi
          simp at hzi
          exact ⟨by rw [hzi.1], by omega⟩
      obtain ⟨hws, rfl⟩ := hw
      have hi3 : t' < 3 := (List.getElem?_eq_some_iff.mp hws).1
      refine g_tup2 cx 9 10 g8 (d := .int (t' : Int)) (e := encW ws) ⟨_, rfl, dv⟩ fun σ9 g9 => ?_
      have g9' : Sg H8 σ9 [.v (.ref u), .d (encProg p), .d (encBuf wd room), .v (.ref qe), .v (.ref qk), .v (.ref ps), .d (.int (x : Int)), .v (.ref qm), .x, .d (.int (t' : Int)), .d (encW ws), .x, .x, .x, .x, .x, .x] := g9
      refine s_setLc (T := T) cx 11 g9' (enc := encR) (L := everyM p) (ei_lst (ev_v 3 g9' rfl) (le8.lst he) (de.mono le8.tk)) 12 (fun r => if (decide (r.2.1 = x) && decide (r.1 ∈ ws)) = true then some (encR r) else none) (fun r H10 σ10 Xb hr10 l10 hb g10 => ?_) (by omega) (blkOk_by (N := nRt) (sc := defScope (topS 54)) (own := [("_law_one", 12)]) (by decide +kernel)) (fun qs zs σ10 H10 nqs l10 hqs dqs g10 => ?_) (sw_true rfl rfl rfl (by decide +kernel))
      · obtain ⟨s0, H0, C, cl, fp, rfl⟩ := hb
        refine ⟨et_one (EB.t (EB.to (eb_and (k := decide (r.2.1 = x)) (k' := decide (r.1 ∈ ws)) (EB.to (eb_eqI (x := (r.2.1 : Int)) (y := (x : Int)) (ev_ix (d := .int (r.2.1 : Int)) (ev_v 12 g10 rfl) ev_int rfl) (ev_v 6 g10 rfl)) (by simp [Int.natCast_inj])) fun _ => EB.to (eb_inS (ys := ws.map wordOf) (ev_ix (d := .str (wordOf r.1)) (ev_v 12 g10 rfl) ev_int rfl) (ev_v 10 g10 rfl)) (word_in r.1 ws)) ?_)), fun d hd => ?_⟩
        · cases (decide (r.2.1 = x) && decide (r.1 ∈ ws)) <;> rfl
        · split at hd
          · cases hd
            exact ev_v 12 g10 rfl
          · cases hd
      rw [filterMap_if (fun r : Rem => decide (r.2.1 = x) && decide (r.1 ∈ ws))] at dqs
      have dqs : DtL H10 zs ((pickM p x ws).map encR) := dqs
      have g10' : Sg H10 σ10 [.v (.ref u), .d (encProg p), .d (encBuf wd room), .v (.ref qe), .v (.ref qk), .v (.ref ps), .d (.int (x : Int)), .v (.ref qm), .x, .d (.int (t' : Int)), .d (encW ws), .v (.ref qs), .x, .x, .x, .x, .x] := g10
      have ot := pick_one (p := p) (fun r hr => (hnear.2 r hr).1) x ws
      refine s_set (T := T) cx 13 g10' (s := .d (.int (kk t' x : Nat))) (ev_call (ss := [.v (.ref qs), .v (.ref qm)]) C5 hr (ea_cons (ev_v 11 g10' rfl) (ea_1 (ev_v 7 g10' rfl))) fun Hc vs lc hv Q' hQ => ?_) fun v11 σ11 H11 l11 _ g11 => ?_
      · obtain ⟨x1, x2, rfl, e1, e2⟩ := ss_two hv
        obtain rfl := sl_v e1
        obtain rfl := sl_v e2
        refine ⟨qs, qm, zs, ms, pickM p x ws, mineM p wd room x, rfl, lc.lst hqs, lc.lst (l10.lst hm8), dqs.mono lc.tk, ((dms.mono tk8).mono l10.tk).mono lc.tk, ot, Nat.le_trans (List.length_filter_le _ _) (by omega), Nat.le_trans (List.length_filter_le _ _) (by omega), fun v d H' l' hd ha => hQ v H' l' ⟨v, rfl, ?_⟩⟩
        rw [← hkk t' hi3 ws hws d ha]
        exact hd
      have g11' : Sg H11 σ11 [.v (.ref u), .d (encProg p), .d (encBuf wd room), .v (.ref qe), .v (.ref qk), .v (.ref ps), .d (.int (x : Int)), .v (.ref qm), .x, .d (.int (t' : Int)), .d (encW ws), .v (.ref qs), .x, .d (.int (kk t' x : Nat)), .x, .x, .x] := g11
      have l811 := l10.trans l11
      have hs11 := l811.lst hs8
      refine s_lput (T := T) (v0 := .non) (k := (t' : Int)) (j := t') (ev_add (ev_ixL (ev_v 5 g11' rfl) hs11 (sum_dt H11 kk x t') (ev_v 9 g11' rfl) (val_at kk x hi3)) (ev_v 13 g11' rfl)) (ev_v 5 g11' rfl) hs11 (ev_v 9 g11' rfl) ?_ fun v12 H12 l12 hv12 => ?_
      · show ixN 3 (t' : Int) = some t'
        unfold ixN
        simp
        omega
      have hs12 := l12.lst hs11
      obtain rfl := (sl_d hv12).inv_int
      have e12 : (sumV kk x t').set t' (.int ((sumTo (kk t') x : Nat) + (kk t' x : Nat) : Int)) = sumV kk x (t' + 1) := val_set kk x hi3
      rw [e12]
      have tk12 : Tk H12 (upd H12 ps (.lst (sumV kk x (t' + 1)))) := tk_lst hs12
      have le12 : Le T H5 (upd H12 ps (.lst (sumV kk x (t' + 1)))) := (le8.trans (l811.trans l12)).mutL nps hs12
      have hqp : qm ≠ ps := fun z => by
        rw [z, hsA] at nqm
        cases nqm
      have hs13 : upd H12 ps (.lst (sumV kk x (t' + 1))) ps = some (.lst (sumV kk x (t' + 1))) := upd_same
      have hm13 : upd H12 ps (.lst (sumV kk x (t' + 1))) qm = some (.lst ms) := by
        rw [upd_ne hqp]
        exact (l811.trans l12).lst hm8
      have g13 := (g11'.mono l12.tk).mono tk12
      have tk13 : Tk H8 (upd H12 ps (.lst (sumV kk x (t' + 1)))) := (l811.trans l12).tk.trans tk12
      generalize upd H12 ps (.lst (sumV kk x (t' + 1))) = H13 at le12 hs13 hm13 g13 tk13 ⊢
      -- what the turn leaves
      have fin : ∀ σe He, Le T H13 He → Sg He σe [.v (.ref u), .d (encProg p), .d (encBuf wd room), .v (.ref qe), .v (.ref qk), .v (.ref ps), .d (.int (x : Int)), .v (.ref qm), .x, .x, .x, .x, .x, .x, .x, .x, .x] →
          Tk Hb He ∧ Le T H5 He ∧ Tk H7 He ∧ Sg He σe [.v (.ref u), .d (encProg p), .d (encBuf wd room), .v (.ref qe), .v (.ref qk), .v (.ref ps), .d (.int (x : Int)), .v (.ref qm), .x, .x, .x, .x, .x, .x, .x, .x, .x] ∧ He ps = some (.lst (sumV kk x (t' + 1))) ∧ He qm = some (.lst ms) :=
        fun σe He l ge => ⟨(tkb.trans tk13).trans l.tk, le12.trans l, (tk8.trans tk13).trans l.tk, ge, l.lst hs13, l.lst hm13⟩
      refine s_if0 (T := T) (eb_lt (ev_v 9 g13 rfl) ev_int) (fun hlt H14 l14 => ?_) fun hlt H14 l14 => ?_
      · have hlt2 : t' < 2 := by
          have := of_decide_eq_true hlt
          omega
        obtain ⟨b, rfl, hkb⟩ : ∃ b, ws = [b] ∧ kk t' = kB p wd room b := by
          match t', hlt2 with
          | 0, _ => cases hws; exact ⟨false, rfl, rfl⟩
          | 1, _ => cases hws; exact ⟨true, rfl, rfl⟩
        have g14 := g13.mono l14.tk
        have hT14 : Tabs T H14 := (le12.trans l14).tb (l5.tb hT4)
        refine s_setN (T := T) cx 14 g14 (ds := [.tuple ((ftlM p b wd room).1.map encR), .tuple (((ftlM p b wd room).2.mergeSort (dataLe false encT)).map encT)]) (ev_lst (ds := [.tuple ((ftlM p b wd room).1.map encR), .tuple (((ftlM p b wd room).2.mergeSort (dataLe false encT)).map encT)]) (ea_cons (ev_callRT (ds := [encProg p, encBuf wd room, .str (wordOf b)]) C6 hT14 hr (ea_cons (ev_v 1 g14 rfl) (ea_cons (ev_v 2 g14 rfl) (ea_1 (ev_ix (d := .str (wordOf b)) (ev_v 10 g14 rfl) ev_int rfl)))) ⟨p, wd, room, b, hpo, rfl, rfl⟩) (ea_1 (ev_callRT (ds := [encProg p, encBuf wd room, .str (wordOf b)]) C7 hT14 hr (ea_cons (ev_v 1 g14 rfl) (ea_cons (ev_v 2 g14 rfl) (ea_1 (ev_ix (d := .str (wordOf b)) (ev_v 10 g14 rfl) ev_int rfl)))) ⟨p, wd, room, b, hpo, rfl, rfl⟩)))) fun qt ts σ15 H15 nqt l15 hqt dts g15 => ?_
        have g15' : Sg H15 σ15 [.v (.ref u), .d (encProg p), .d (encBuf wd room), .v (.ref qe), .v (.ref qk), .v (.ref ps), .d (.int (x : Int)), .v (.ref qm), .x, .d (.int (t' : Int)), .d (encW [b]), .v (.ref qs), .x, .d (.int (kk t' x : Nat)), .v (.ref qt), .x, .x] := g15
        rw [hkb] at g15'
        refine s_if0 (T := T) (k := false) (EB.to (eb_neI (x := ((kB p wd room b x : Nat) : Int)) (y := ((kB p wd room b x : Nat) : Int)) (EvD.to (ev_lenN (ds := ((ftlM p b wd room).1.filter fun r => decide (r.2.1 = x)).map encR) ?_ M.len) (by rw [List.length_map]; rfl)) (ev_v 13 g15' rfl)) (by simp)) (fun hz => by cases hz) fun _ H16 l16 => ?_
        · refine EvL.to (ev_lc cx (enc := encR) (L := (ftlM p b wd room).1) (ei_tup (ev_ixL (ev_v 14 g15' rfl) hqt dts ev_int rfl)) 12 g15' (fun r => if decide (r.2.1 = x) = true then some (encR r) else none) (fun r H17 σ17 Xb hr17 l17 hb g17 => ?_) ?_ (blkOk_by (N := nRt) (sc := defScope (topS 54)) (own := [("_law_one", 12)]) (by decide +kernel))) (filterMap_if (fun r : Rem => decide (r.2.1 = x)) encR _)
          · obtain ⟨s0, H0, C, cl, fp, rfl⟩ := hb
            refine ⟨et_one (EB.t (EB.to (eb_eqI (x := (r.2.1 : Int)) (y := (x : Int)) (ev_ix (d := .int (r.2.1 : Int)) (ev_v 12 g17 rfl) ev_int rfl) (ev_v 6 g17 rfl)) ?_)), fun d hd => ?_⟩
            · by_cases hyx : r.2.1 = x <;> simp [hyx, Int.natCast_inj]
            · split at hd
              · cases hd
                exact ev_v 12 g17 rfl
              · cases hd
          · exact Nat.le_trans (ftlM_len p hpo b wd room).1 (by decide)
        have g16 := g15'.mono l16.tk
        refine s_if0 (T := T) (k := false) (EB.to (eb_neI (x := ((kB p wd room b x : Nat) : Int)) (y := ((kB p wd room b x : Nat) : Int)) (EvD.to (ev_lenN (ds := (((ftlM p b wd room).2.mergeSort (dataLe false encT)).filter fun y => decide (y.1 = x)).map encT) ?_ M.len) (by rw [List.length_map, pl.prs])) (ev_v 13 g16 rfl)) (by simp)) (fun hz => by cases hz) fun _ H18 l18 => ?_
        · refine EvL.to (ev_lc cx (enc := encT) (L := (ftlM p b wd room).2.mergeSort (dataLe false encT)) (ei_tup (ev_ixL (ev_v 14 g16 rfl) (l16.lst hqt) (dts.mono l16.tk) ev_int rfl)) 8 g16 (fun y => if decide (y.1 = x) = true then some (encT y) else none) (fun y H17 σ17 Xb hy l17 hb g17 => ?_) ?_ (blkOk_by (N := nRt) (sc := defScope (topS 54)) (own := [("_law_pair", 8)]) (by decide +kernel))) (filterMap_if (fun y : Tri => decide (y.1 = x)) encT _)
          · obtain ⟨s0, H0, C, cl, fp, rfl⟩ := hb
            refine ⟨et_one (EB.t (EB.to (eb_eqI (x := (y.1 : Int)) (y := (x : Int)) (ev_ix (d := .int (y.1 : Int)) (ev_v 8 g17 rfl) ev_int rfl) (ev_v 6 g17 rfl)) ?_)), fun d hd => ?_⟩
            · by_cases hyx : y.1 = x <;> simp [hyx, Int.natCast_inj]
            · split at hd
              · cases hd
                exact ev_v 8 g17 rfl
              · cases hd
          · rw [List.length_mergeSort]
            exact Nat.le_trans (ftlM_len p hpo b wd room).2 (by decide)
        exact s_nil (s_nil (fin _ H18 (l14.trans (l15.trans (l16.trans l18))) ((((((g16.mono l18.tk).forget 9).forget 10).forget 11).forget 13).forget 14)))
      · exact s_nil (fin _ H14 l14 (((((((g13.mono l14.tk).forget 9).forget 10).forget 11).forget 13))))
    · obtain ⟨tkb, le8, tk8, g8, hs8, hm8⟩ := j
      have hs8 : H8 ps = some (.lst (sumV kk (x + 1) 0)) := hs8
      refine s_nil ⟨((tk0.trans l7.tk).trans tk8), le8, ((g8.forget 6).forget 7), hs8⟩
  · obtain ⟨tk0, le0, gA, hsA⟩ := j
    rw [List.length_range] at hsA
    have hTA : Tabs T H' := le0.tb (l5.tb hT4)
    obtain ⟨fc, fdc, Fc, hmc, hkc, hbc⟩ := C8.ex
    refine s_asgW ?_
    refine w_pe (pe_call Fc hr (by rfl) hmc hkc hbc .nil pass0 (pa_cons pe_w (pa_cons pe_w (pa_cons pe_w pa_nil))) (by decide) (by rfl) (by rfl)) ?_
    refine Ev.app (T := T) (ev_v 1 gA rfl) (.refl _) fun w1 Ha la ha => ?_
    refine Ev.app (T := T) (ev_v 2 (gA.mono la.tk) rfl) (.refl _) fun w2 Hb lb hb => ?_
    have gb := (gA.mono la.tk).mono lb.tk
    have leb := le0.trans (la.trans lb)
    refine w_tupPl (T := T) (rs := everyM p) (EvL.to (ev_lc cx (enc := encR) (L := everyM p) (ei_lst (ev_v 3 gb rfl) (leb.lst he) (de.mono leb.tk)) 12 gb (fun r => some (plD r)) (fun r H17 σ17 Xb hr17 l17 hb g17 => ?_) (by omega) (blkOk_by (N := nRt) (sc := defScope (topS 54)) (own := [("_law_one", 12)]) (by decide +kernel))) (filterMap_some _ _)) (.refl _) (fun w3 Hc lc hc => ?_) M.tuple
    · obtain ⟨s0, H0, C, cl, fp, rfl⟩ := hb
      refine ⟨et_nil, fun d hd => ?_⟩
      cases hd
      exact ev_tup (ds := [encR r, .int 1]) (ea_cons (ev_v 12 g17 rfl) (ea_1 ev_int))
    have gc := gb.mono lc.tk
    have lec := leb.trans lc
    refine ⟨p, wd, room, everyM p, w1, w2, w3, rfl, (la.trans (lb.trans lc)).tb hTA, ((sl_d ha).mono lb.tk).mono lc.tk, (sl_d hb).mono lc.tk, hc, every_nodup p, by omega, hpo, pl.cut, fun v H9 l9 hv => ?_⟩
    rw [pl.tot] at hv
    refine g_tup2 cx 15 16 (gc.mono l9.tk) ⟨_, rfl, hv⟩ fun σ9 g9 => ?_
    have g9' : Sg H9 σ9 [.v (.ref u), .d (encProg p), .d (encBuf wd room), .v (.ref qe), .v (.ref qk), .v (.ref ps), .x, .x, .x, .x, .x, .x, .x, .x, .x, .d (.int (sumTo k2 p.length : Nat)), .d (.tuple ((cheapM p wd room (everyM p)).map encR))] := g9
    have hs9 : H9 ps = some (.lst (sumV kk p.length 0)) := (la.trans (lb.trans (lc.trans l9))).lst hsA
    have dt9 := sum_dt H9 kk p.length 0
    have le1 := pl.le false
    have le2 := pl.le true
    refine s_retB (T := T) (b := true) ?_ fun v H10 l10 hv => q v H10 (lx04.trans (.of (l5.trans (lec.trans (l9.trans l10))))) ((hu4.le (l5.trans (lec.trans (l9.trans l10)))).up (by omega)) hv
    refine EB.to (eb_and3 (k := true) (k' := true) (k2 := true) ?_ (fun _ => ?_) fun _ _ => ?_) rfl
    · exact EB.to (eb_eqI (ev_v 15 g9' rfl) (ev_ixL (ev_v 5 g9' rfl) hs9 dt9 ev_int rfl)) (by simp [valM, kk])
    · exact EB.to (eb_eqI (EvD.to (ev_lenT (ev_v 16 g9' rfl) M.len) (by rw [List.length_map, pl.tot])) (ev_v 15 g9' rfl)) (by simp)
    · refine EB.to (eb_le (ev_v 15 g9' rfl) (ev_min2 cx (ev_ixL (ev_v 5 g9' rfl) hs9 dt9 ev_int rfl) (ev_ixL (ev_v 5 g9' rfl) hs9 dt9 ev_int rfl) M.min)) ?_
      simp only [valM, kk]
      rw [decide_eq_true_eq]
      split <;> simp <;> omega
end
end RF
set_option Elab.async false
set_option linter.all false
set_option maxRecDepth 100000
set_option maxHeartbeats 8000000
/-! law -/
namespace RF
open PySem PySem.Spec L2 LamX NdefX
open PyProof.Rows hiding St
open PySem.W (dataLe)
section
variable {T : List (Addr × Str)} {X : Cx} {e a b o : Expr} {σ : St} {H : Hp} {δ : List Sl} {pos p : Pos} {rest : List Stmt} {D : Ends} {i j : Int}
theorem ev_max2 (c : Fx X) (ha : EvD T X a σ H (.int i)) (hb : EvD T X b σ H (.int j)) (hm : X.mg "max" = none) (hg : Gl X "max" := by rfl) (hst : starEach [a, b] X.env = (false, eval a X.env) :: starEach [b] X.env := by rfl) (hst2 : starEach [b] X.env = (false, eval b X.env) :: starEach [] X.env := by rfl)
    (hpl : (backTo pos (starEach [b] X.env)).any (·.1) = false := by rfl) : EvD T X (.Call (.Name "max" p) [a, b] [] pos) σ H (.int (if i < j then j else i)) := fun H1 l Q q => by
  refine w_pe (pe_callB (call_max2 c.calm) hg hm boot_max (pa_cons pe_w (pa_cons pe_w pa_nil hst2) hst) (by decide) (by decide) hst hpl) (ha H1 l _ fun v H2 l2 h2 => hb H2 (l.trans l2) _ fun w H3 l3 h3 => ?_)
  obtain rfl := (sl_d h2).inv_int
  obtain rfl := (sl_d h3).inv_int
  exact ⟨i, j, rfl, q _ H3 (l2.trans l3) ⟨_, rfl, .int _⟩⟩
/-- if not e: .., e acts and gives True -/
theorem s_ifNotW {A : List Stmt} {pn : Pos} (h : wE X e σ H fun v H' => v = .bl true ∧ wSs X rest D σ H') (he : ∀ whole, isTrue e X.env whole = (do let v ← whole; standAt e.pos; holding [v] (truthy v)) := by intro _; rfl) : wSs X (.If (.UnaryOp .Not e pn) A [] pos :: rest) D σ H := by
  refine s_ifW (w_pt (pt_not pt_w) (w_pt (pt_val pe_w he) (h.imp fun v H' h' => ?_)))
  obtain ⟨rfl, h'⟩ := h'
  exact ⟨true, rfl, fun z => (by cases z), fun _ => s_nil h'⟩
end
section
variable {P : Program} {w : World} {K : PySem.W.Frag} {mg : Str → Option Value} {base : Heap} {T : List (Addr × Str)} {f : Addr} {fd : FuncData} {k : Nat}
def spLaw (T : List (Addr × Str)) (K : PySem.W.Frag) : Sp := fun vs H Q _ => ∃ (a : Addr) (ns : List Int), vs = [.ref a] ∧ SqI T K H a ns ∧ ns.length ≤ 100000 ∧ Tabs T H ∧ ∀ H', Q (.bl true) H'
abbrev nLw : List Str := ["_law_script", "_law_k", "_law_urn_here", "_law_turn"]
theorem ok_law (M : Nm mg) (F : Fun K "law" "law" (topS 55) f fd) (C1 : Cal P w K mg base k "_law_urn" ["_law_script", "_law_k"] (spUrn T K)) (C2 : Cal P w K mg base k "_law_right" ["_law_urn_here"] (spRight T)) :
    FnOk P w K mg base CX0 (k + 1) f fd ["_law_script"] (spLaw T K) := by
  have S : FnScope nLw ["_law_script"] (defScope (topS 55)) := ⟨rfl, rfl, rfl, by decide +kernel, rfl, by decide +kernel, by decide +kernel⟩
  refine fun_okW F S (fun vs H Q E h => ?_) fun X cdv A outer s H vs Q E e cx hr h => ?_
  · obtain ⟨a, ns, rfl, _⟩ := h
    rfl
  subst e
  obtain ⟨a, ns, rfl, hs, hl, hT, q⟩ := h
  have g : Sg H (L2.start nLw [.ref a]) [.v (.ref a), .x, .x, .x] := .cons rfl (.cons True.intro (.cons True.intro (.cons True.intro .nil)))
  obtain ⟨m, hm, hm2⟩ : ∃ m : Nat, (if (1 : Int) < (if (ns.length : Int) < 2 then (ns.length : Int) else 2) then (if (ns.length : Int) < 2 then (ns.length : Int) else 2) else 1) = (m : Int) ∧ m ≤ 2 := by
    split <;> split <;> first | exact ⟨1, rfl, by omega⟩ | exact ⟨2, rfl, by omega⟩ | exact ⟨ns.length, rfl, by omega⟩
  refine s_for (T := T) cx (enc := encN) (L := List.range m) (ei_range1 (ea_1 (EvD.to (ev_max2 cx ev_int (ev_min2 cx ev_int (ev_lenS (ev_v 0 g rfl) hs M.len) M.min) M.max) (by rw [hm]))) (by omega) M.range)
    (fun Hs i σ' H' => Tk Hs H' ∧ Le T H H' ∧ Sg H' σ' [.v (.ref a), .x, .x, .x]) (fun Hs l => ⟨.refl _, l, g.mono l.tk⟩) (fun Hs i σ' H' l j => ⟨j.1, fun _ _ z => z.elim⟩) (fun Hs i σ' H' H2 j l => ⟨j.1.trans l.tk, j.2.1.trans l, j.2.2.mono l.tk⟩) (fun Hs i x v σ' H' l hxi j dv => ?_) (fun Hs σ' H' l j => ?_)
  · obtain ⟨tk0, le0, gA⟩ := j
    have hx : x < m := by
      have := List.mem_range.mp (List.mem_of_getElem? hxi)
      exact this
    refine g_name cx 1 gA (s := .d (encN x)) ⟨v, rfl, dv⟩ fun σB gB => ?_
    have gB' : Sg H' σB [.v (.ref a), .d (.int (x : Int)), .x, .x] := gB
    refine s_setG cx 2 (w_call (T := T) (ss := [.v (.ref a), .d (.int (x : Int))]) C1 hr (ea_cons (ev_v 0 gB' rfl) (ea_1 (ev_v 1 gB' rfl))) fun vs H1 l1 hv => ?_)
    obtain ⟨x1, x2, rfl, e1, e2⟩ := ss_two hv
    obtain rfl := sl_v e1
    refine ⟨a, ns, x, x2, rfl, (hs.le le0).le l1, sl_d e2, by omega, fun u H2 nu l2 hu => ?_⟩
    have le2 := le0.trans (l1.trans l2)
    have g2 : Sg H2 (σB.set 2 (some (.ref u))) [.v (.ref a), .d (.int (x : Int)), .v (.ref u), .x] := (gB'.mono (l1.trans l2).tk).set (s := .v (.ref u)) rfl 2
    show wSs _ _ _ _ _
    generalize σB.set 2 (some (V.ref u)) = σ2 at g2 ⊢
    have hnu : H' u = none := l1.fr _ nu
    refine s_for (T := T) cx (enc := encN) (L := List.range 4) (ei_range1 (n := 4) (ea_1 ev_int) (by decide) M.range)
      (fun Hb i σ' H3 => Tk Hb H3 ∧ LeX T (At u) H2 H3 ∧ UrnAt H3 u (28 * i) ∧ Sg H3 σ' [.v (.ref a), .d (.int (x : Int)), .v (.ref u), .x]) (fun Hb l => ⟨.refl _, .of l, hu.le l, g2.mono l.tk⟩) (fun Hb i σ' H3 l j => ⟨j.1, fun _ _ z => z.elim⟩) (fun Hb i σ' H3 H4 j l => ⟨j.1.trans l.tk, j.2.1.trans (.of l), j.2.2.1.le l, j.2.2.2.mono l.tk⟩) (fun Hb i y v σ' H3 lb hyi j dv => ?_) (fun Hb σ' H3 lb j => ?_)
    · obtain ⟨tkb, lxb, hub, gb⟩ := j
      have hi : i < 4 := by
        have := (List.getElem?_eq_some_iff.mp hyi).1
        rwa [List.length_range] at this
      refine g_name cx 3 gb (s := .d (encN y)) ⟨v, rfl, dv⟩ fun σC gC => ?_
      have gC' : Sg H3 σC [.v (.ref a), .d (.int (x : Int)), .v (.ref u), .d (.int (y : Int))] := gC
      refine s_ifNotW (w_call (T := T) (ss := [.v (.ref u)]) C2 hr (ea_1 (ev_v 2 gC' rfl)) fun vs H4 l4 hv => ?_)
      obtain ⟨x3, rfl, e3⟩ := ss_one hv
      obtain rfl := sl_v e3
      refine ⟨u, 28 * i, rfl, hub.le l4, by omega, ((lxb.trans (.of l4)).tb (le2.tb hT)), fun v H5 lx5 hu5 hv5 => ⟨hv5.inv_bl, s_nil ?_⟩⟩
      have tk5 : Tk H3 H5 := l4.tk.trans ((hub.le l4).tk lx5)
      exact ⟨tkb.trans tk5, lxb.trans ((LeX.of l4).trans lx5), hu5, (gC'.mono tk5).forget 3⟩
    · obtain ⟨tkb, lxb, hub, gb⟩ := j
      have lef : Le T H' H3 := lxb.le (l1.trans l2) fun b hb => by rw [show b = u from hb]; exact hnu
      exact s_nil ⟨tk0.trans lef.tk, le0.trans lef, (gb.forget 1).forget 2⟩
  · refine s_retB (T := T) (b := true) (eb_val ev_bl) fun v H10 l10 hv => ?_
    rw [hv.inv_bl]
    exact q H10
end
end RF
set_option Elab.async false
set_option linter.all false
set_option maxRecDepth 100000
/-! counting covers; the greedy choice -/
namespace RF
section
variable {α β : Type}
theorem len_split (p : β → Bool) : ∀ L : List β, L.length = (L.filter p).length + (L.filter fun x => !p x).length
  | [] => rfl
  | a :: L => by
    have := len_split p L
    cases h : p a <;> simp [h] <;> omega
theorem filter_comm_le (p q : β → Bool) (L : List β) : ((L.filter p).filter q).length ≤ (L.filter q).length :=
  ((List.filter_sublist (p := p) (l := L)).filter q).length_le
/-- no more pairs than covers, if none covers two -/
theorem cover_len (c : α → β → Bool) : ∀ (row : List α) (Q : List β), (∀ q ∈ Q, ∃ x ∈ row, c x q = true) → (∀ x ∈ row, (Q.filter (c x)).length ≤ 1) → Q.length ≤ row.length
  | [], Q, h, _ => by
    cases Q with
    | nil => exact Nat.le_refl _
    | cons q Q =>
      obtain ⟨x, hx, _⟩ := h q List.mem_cons_self
      cases hx
  | x :: row, Q, h, h1 => by
    have e := len_split (c x) Q
    have a := h1 x List.mem_cons_self
    have ih := cover_len c row (Q.filter fun q => !c x q) (fun q hq => by
      obtain ⟨hq1, hq2⟩ := List.mem_filter.mp hq
      obtain ⟨z, hz, hc⟩ := h q hq1
      rcases List.mem_cons.mp hz with rfl | hz
      · rw [hc] at hq2
        cases hq2
      · exact ⟨z, hz, hc⟩) fun z hz => Nat.le_trans (filter_comm_le _ _ _) (h1 z (List.mem_cons_of_mem _ hz))
    rw [List.length_cons]
    omega
/-- pairs are taken one by one, if no cover taken so far cuts them -/
def greedy (c : α → β → Bool) (last : β → α) : List β → List β → List β
  | Q, [] => Q
  | Q, y :: ys => if (Q.any fun q => c (last q) y) = true then greedy c last Q ys else greedy c last (Q ++ [y]) ys
theorem greedy_spec (c : α → β → Bool) (last : β → α) : ∀ (ys Q : List β), (∀ y ∈ ys, c (last y) y = true) →
    ∃ D, greedy c last Q ys = Q ++ D ∧ D.Sublist ys ∧ (∀ y ∈ ys, ∃ q ∈ Q ++ D, c (last q) y = true) ∧ D.Pairwise (fun q q' => c (last q) q' = false) ∧ ∀ q ∈ Q, ∀ d ∈ D, c (last q) d = false
  | [], Q, _ => ⟨[], by simp [greedy], .slnil, (fun y hy => by cases hy), .nil, fun q _ d hd => by cases hd⟩
  | y :: ys, Q, h => by
    have h' : ∀ z ∈ ys, c (last z) z = true := fun z hz => h z (List.mem_cons_of_mem _ hz)
    unfold greedy
    split
    · rename_i ha
      obtain ⟨D, e, s, cov, pw, no⟩ := greedy_spec c last ys Q h'
      refine ⟨D, e, s.cons y, fun z hz => ?_, pw, no⟩
      rcases List.mem_cons.mp hz with rfl | hz
      · obtain ⟨q, hq, hc⟩ := List.any_eq_true.mp ha
        exact ⟨q, List.mem_append_left _ hq, hc⟩
      · exact cov z hz
    · rename_i ha
      obtain ⟨D, e, s, cov, pw, no⟩ := greedy_spec c last ys (Q ++ [y]) h'
      rw [List.append_assoc] at e cov
      refine ⟨y :: D, e, s.cons_cons y, fun z hz => ?_, List.pairwise_cons.mpr ⟨fun d hd => no y (by simp) d hd, pw⟩, fun q hq d hd => ?_⟩
      · rcases List.mem_cons.mp hz with rfl | hz
        · exact ⟨z, by simp, h z List.mem_cons_self⟩
        · exact cov z hz
      · rcases List.mem_cons.mp hd with rfl | hd
        · cases hh : c (last q) d with
          | false => rfl
          | true => exact absurd (List.any_eq_true.mpr ⟨q, hq, hh⟩) ha
        · exact no q (List.mem_append_left _ hq) d hd
/-- what the greedy choice gives of a list in order -/
structure Good (c : α → β → Bool) (last : β → α) (rs : List α) (S Q : List β) : Prop where
  sub : Q.Sublist S
  cov : ∀ y ∈ S, ∃ q ∈ Q, c (last q) y = true
  one : ∀ x ∈ rs, (Q.filter (c x)).length ≤ 1
  nd : (Q.map last).Nodup
theorem pw_one {p : β → Bool} : ∀ {L : List β}, L.Pairwise (fun a b => ¬ (p a = true ∧ p b = true)) → (L.filter p).length ≤ 1
  | [], _ => by simp
  | a :: L, h => by
    rw [List.pairwise_cons] at h
    cases ha : p a with
    | false => rw [List.filter_cons_of_neg (by rw [ha]; exact Bool.false_ne_true)]; exact pw_one h.2
    | true =>
      have e : L.filter p = [] := List.filter_eq_nil_iff.mpr fun b hb hp => h.1 b hb ⟨ha, hp⟩
      rw [List.filter_cons_of_pos ha, e]
      exact Nat.le_refl _
theorem greedy_good {c : α → β → Bool} {last : β → α} {rs : List α} {S : List β} (h : ∀ y ∈ S, c (last y) y = true) (R : S.Pairwise fun q q' => ∀ x ∈ rs, c x q = true → c x q' = true → c (last q) q' = true) : Good c last rs S (greedy c last [] S) := by
  obtain ⟨D, e, s, cov, pw, _⟩ := greedy_spec c last S [] h
  rw [List.nil_append] at e cov
  rw [e]
  have R' := R.sublist s
  refine ⟨s, cov, fun x hx => pw_one ((R'.and pw).imp fun {q q'} hh hc => ?_), ?_⟩
  · have := hh.1 x hx hc.1 hc.2
    rw [hh.2] at this
    cases this
  · rw [List.Nodup, List.pairwise_map]
    refine pw.imp_of_mem fun {q q'} hq hq' hf e => ?_
    rw [e, h q' (s.subset hq')] at hf
    cases hf
theorem filter_len_mono {p q : β → Bool} (h : ∀ x, p x = true → q x = true) (L : List β) : (L.filter p).length ≤ (L.filter q).length := by
  have : L.filter p = (L.filter q).filter p := by
    rw [List.filter_filter]
    congr 1
    funext x
    cases hp : p x with
    | false => simp
    | true => simp [h x hp]
  rw [this]
  exact List.length_filter_le _ _
/-- a list by its parts -/
theorem len_parts (f : β → Nat) (L : List β) : ∀ n, (L.filter fun x => decide (f x < n)).length = sumTo (fun t => (L.filter fun x => decide (f x = t)).length) n
  | 0 => by simp [sumTo]
  | n + 1 => by
    have e := len_split (fun x => decide (f x < n)) (L.filter fun x => decide (f x < n + 1))
    rw [List.filter_filter, List.filter_filter] at e
    rw [e]
    show _ = sumTo _ n + _
    rw [← len_parts f L n]
    congr 2
    · apply List.filter_congr
      intro x _
      by_cases h : f x < n <;> simp [h]
      omega
    · apply List.filter_congr
      intro x _
      by_cases h : f x = n
      · simp [h]
      · simp [h]
        omega
theorem nodup_le [DecidableEq α] : ∀ {C U : List α}, C.Nodup → (∀ x ∈ C, x ∈ U) → C.length ≤ U.length
  | [], U, _, _ => by simp
  | x :: C, U, nd, h => by
    rw [List.nodup_cons] at nd
    have hx := h x List.mem_cons_self
    have := nodup_le (U := U.erase x) nd.2 fun y hy => (List.mem_erase_of_ne fun e => nd.1 (by rw [← e]; exact hy)).mpr (h y (List.mem_cons_of_mem _ hy))
    rw [List.length_erase_of_mem hx] at this
    have := List.length_pos_of_mem hx
    rw [List.length_cons]
    omega
end
end RF
set_option Elab.async false
set_option linter.all false
set_option maxRecDepth 100000
set_option maxHeartbeats 4000000
/-! the live pairs of the program are those of the law -/
namespace RF
open PySem PySem.Spec L2 LamX NdefX
open PySem.W (dataLe)

/-! ### accesses with one key meet the same -/
theorem key_meet {i j : Ins} (hi : i.acc = true) (hj : j.acc = true) (h : exKey i = exKey j) (o : Ins) : lmeet i o = lmeet j o ∧ lmeet o i = lmeet o j := by
  have hv : i.var? = j.var? := by
    unfold exKey at h
    have h1 := (Prod.mk.inj h).1
    obtain ⟨x, hx⟩ := acc_var hi
    obtain ⟨y, hy⟩ := acc_var hj
    rw [hx, hy] at h1 ⊢
    exact congrArg some h1
  have hs : i.stores = j.stores := by
    unfold exKey at h
    have h2 := (Prod.mk.inj h).2
    cases i <;> cases j <;> simp_all [Ins.isLd, Ins.stores, Ins.acc]
  unfold lmeet meetI
  rw [hi, hj, hv, hs]
  exact ⟨rfl, rfl⟩
theorem exPut_sub {L : List (EK × Nat)} {k : EK} {a : Nat} {q : EK × Nat} (h : q ∈ L) : q ∈ exPut L k a := by
  unfold exPut
  split
  · exact h
  · exact List.mem_append_left _ h
theorem exPut_has (L : List (EK × Nat)) (k : EK) (a : Nat) : ∃ q ∈ exPut L k a, q.1 = k := by
  unfold exPut
  split
  · rename_i h
    obtain ⟨q, hq, e⟩ := List.any_eq_true.mp h
    exact ⟨q, hq, by simpa using e⟩
  · exact ⟨(k, a), by simp, rfl⟩
theorem exStep_sub {r : List Ins} {L : List (EK × Nat)} {a : Nat} {q : EK × Nat} (h : q ∈ L) : q ∈ exStep r L a := by
  unfold exStep
  split
  · split
    · exact exPut_sub h
    · exact h
  · exact h
theorem exFoldl_sub {r : List Ins} {q : EK × Nat} : ∀ (as : List Nat) (L : List (EK × Nat)), q ∈ L → q ∈ as.foldl (exStep r) L
  | [], _, h => h
  | a :: as, L, h => exFoldl_sub as (exStep r L a) (exStep_sub h)
theorem exFoldl_has {r : List Ins} {b : Nat} {i : Ins} (hb : r[b]? = some i) (hi : i.acc = true) : ∀ (as : List Nat) (L : List (EK × Nat)), b ∈ as → ∃ q ∈ as.foldl (exStep r) L, q.1 = exKey i
  | [], _, h => by cases h
  | a :: as, L, h => by
    rw [List.foldl_cons]
    rcases List.mem_cons.mp h with rfl | h
    · have e : exStep r L b = exPut L (exKey i) b := by
        unfold exStep
        rw [hb]
        simp only
        rw [if_pos hi]
      rw [e]
      obtain ⟨q, hq, e⟩ := exPut_has L (exKey i) b
      exact ⟨q, exFoldl_sub as _ hq, e⟩
    · exact exFoldl_has hb hi as (exStep r L a) h
/-- an access behind the entry has an exit like it -/
theorem exits_has {r : List Ins} {e b : Nat} {i : Ins} (he : e ≤ b) (hb : r[b]? = some i) (hi : i.acc = true) : ∃ a ∈ exitsM r e, ∃ j, r[a]? = some j ∧ j.acc = true ∧ exKey j = exKey i := by
  have hl : b < r.length := (List.getElem?_eq_some_iff.mp hb).1
  obtain ⟨q, hq, ek⟩ := exFoldl_has hb hi (List.range' e (r.length - e)) [] (List.mem_range'_1.mpr ⟨he, by omega⟩)
  obtain ⟨_, j, h1, h2, h3⟩ := exFold_good r e q hq
  exact ⟨q.2, by unfold exitsM; rw [mem_sortN]; exact List.mem_map.mpr ⟨q, hq, rfl⟩, j, h1, h2, by rw [← h3, ek]⟩

/-! ### ways of the law -/
inductive Go (p : Prog) (goal : Ins) : Ins → List Nat → Prop
  | hit {one o : Ins} {free : List Nat} {t : Nat} : t ∈ free → o ∈ sufM p one t → lmeet o goal = true → Go p goal one free
  | step {one o : Ins} {free : List Nat} {t : Nat} : t ∈ free → o ∈ sufM p one t → o.acc = true → Go p goal o (free.filter fun f => !decide (f = t)) → Go p goal one free
theorem go_of {p : Prog} {goal : Ins} : ∀ (k : Nat) (one : Ins) (free : List Nat), goesM p goal k one free = true → Go p goal one free
  | 0, _, _, h => by cases h
  | k + 1, one, free, h => by
    unfold goesM at h
    obtain ⟨t, ht, h⟩ := List.any_eq_true.mp h
    rw [Bool.or_eq_true] at h
    rcases h with h | h
    · obtain ⟨o, ho, h⟩ := List.any_eq_true.mp h
      exact .hit ht ho h
    · obtain ⟨o, ho, h⟩ := List.any_eq_true.mp h
      rw [Bool.and_eq_true] at h
      exact .step ht ho h.1 (go_of k o _ h.2)
theorem free_less {free : List Nat} {t : Nat} (h : t ∈ free) : (free.filter fun f => !decide (f = t)).length < free.length :=
  List.length_filter_lt_length_iff_exists.mpr ⟨t, h, by simp⟩
theorem goes_of {p : Prog} {goal one : Ins} {free : List Nat} (h : Go p goal one free) : ∀ k, free.length ≤ k → goesM p goal k one free = true := by
  induction h with
  | hit ht ho hm =>
    intro k hk
    cases k with
    | zero => exact absurd (List.length_pos_of_mem ht) (by omega)
    | succ k =>
      unfold goesM
      exact List.any_eq_true.mpr ⟨_, ht, by rw [Bool.or_eq_true]; exact .inl (List.any_eq_true.mpr ⟨_, ho, hm⟩)⟩
  | step ht ho ha _ ih =>
    intro k hk
    cases k with
    | zero => exact absurd (List.length_pos_of_mem ht) (by omega)
    | succ k =>
      have := free_less ht
      unfold goesM
      exact List.any_eq_true.mpr ⟨_, ht, by rw [Bool.or_eq_true]; exact .inr (List.any_eq_true.mpr ⟨_, ho, by rw [Bool.and_eq_true]; exact ⟨ha, ih k (by omega)⟩⟩)⟩
theorem mem_dropW {q : Ins → Bool} : ∀ {l : List Ins} {o : Ins}, o ∈ l.dropWhile (fun o => !q o) ↔ ∃ en b, l.findIdx? q = some en ∧ en ≤ b ∧ l[b]? = some o
  | [], o => by simp
  | a :: l, o => by
    cases h : q a with
    | true =>
      rw [List.dropWhile_cons_of_neg (by simp [h]), List.findIdx?_cons, if_pos h]
      constructor
      · intro ho
        obtain ⟨b, hb⟩ := List.mem_iff_getElem?.mp ho
        exact ⟨0, b, rfl, Nat.zero_le _, hb⟩
      · rintro ⟨en, b, _, _, hb⟩
        exact List.mem_of_getElem? hb
    | false =>
      rw [List.dropWhile_cons_of_pos (by simp [h]), List.findIdx?_cons, if_neg (by rw [h]; exact Bool.false_ne_true), mem_dropW (l := l)]
      constructor
      · rintro ⟨en, b, h1, h2, h3⟩
        exact ⟨en + 1, b + 1, by rw [h1]; rfl, by omega, by simpa using h3⟩
      · rintro ⟨en, b, h1, h2, h3⟩
        obtain ⟨en', h4, rfl⟩ := Option.map_eq_some_iff.mp h1
        cases b with
        | zero => omega
        | succ b => exact ⟨en', b, h4, by omega, by simpa using h3⟩
theorem first_lmeet {i : Ins} (hi : i.acc = true) (r : List Ins) : firstM i r = r.findIdx? (lmeet i) := by
  unfold firstM lmeet
  rw [hi]
  rfl
theorem mem_suf {p : Prog} {i o : Ins} {t : Nat} (hi : i.acc = true) : o ∈ sufM p i t ↔ ∃ en b, firstM i (p.getD t []) = some en ∧ en ≤ b ∧ (p.getD t [])[b]? = some o := by
  unfold sufM
  rw [first_lmeet hi, List.getD_eq_getElem?_getD]
  exact mem_dropW
/-! ### sets of threads -/
theorem freeBit_eq (u o : Nat) : freeBit u o = !u.testBit o := by
  unfold freeBit
  rw [Nat.testBit_eq_decide_div_mod_eq]
  rcases Nat.mod_two_eq_zero_or_one (u / 2 ^ o) with h | h <;> simp [h]
def frees (n u : Nat) : List Nat := (List.range n).filter (freeBit u)
theorem frees_or (n u t : Nat) : (frees n u).filter (fun f => !decide (f = t)) = frees n (u ||| 2 ^ t) := by
  unfold frees
  rw [List.filter_filter]
  congr 1
  funext f
  rw [freeBit_eq, freeBit_eq, Nat.testBit_or, Nat.testBit_two_pow]
  by_cases h : f = t
  · subst h; simp
  · have h' : ¬ t = f := fun e => h e.symm
    simp [h, h']
theorem freeM_eq (p : Prog) (t : Nat) : freeM p t = frees p.length (2 ^ t) := by
  unfold freeM frees
  congr 1
  funext f
  rw [freeBit_eq, Nat.testBit_two_pow]
  by_cases h : f = t
  · subst h; simp
  · have h' : ¬ t = f := fun e => h e.symm
    simp [h, h']
theorem mem_frees {n u t : Nat} : t ∈ frees n u ↔ t < n ∧ freeBit u t = true := by
  unfold frees
  rw [List.mem_filter, List.mem_range]
theorem insAt_getD {p : Prog} {t a : Nat} {i : Ins} : insAt p t a = some i ↔ (p.getD t [])[a]? = some i := by
  unfold insAt
  rw [List.getD_eq_getElem?_getD]
  cases p[t]? <;> simp
theorem entM_some {p : Prog} {i : Ins} {u o en : Nat} : entM p i u o = some en ↔ freeBit u o = true ∧ firstM i (p.getD o []) = some en := by
  unfold entM
  split <;> simp_all
/-! ### what is entered is a way of the law -/
section
variable {p : Prog} {goal i0 : Ins} {u0 : Nat}
def Snd (p : Prog) (goal i0 : Ins) (u0 : Nat) (L : Ents) : Prop := ∀ z ∈ L, ∀ b o, insAt p z.1.2 b = some o → z.2.1 ≤ b → o.acc = true → (lmeet o goal = true ∨ Go p goal o (frees p.length z.1.1)) → Go p goal i0 (frees p.length u0)
theorem enterOne_snd {i : Ins} {used x other : Nat} {ahead : Option S2} {L : Ents} (hi : i.acc = true) (ho : other < p.length) (H : Go p goal i (frees p.length used) → Go p goal i0 (frees p.length u0)) (h : Snd p goal i0 u0 L) : Snd p goal i0 u0 (enterOne p i used x ahead L other) := by
  unfold enterOne
  cases he : entM p i used other with
  | none => exact h
  | some en =>
    simp only
    split
    · intro z hz
      rcases putA_mem hz with hz | rfl
      · exact h z hz
      · intro b o hb hle ha hg
        obtain ⟨h1, h2⟩ := entM_some.mp he
        have hm : o ∈ sufM p i other := (mem_suf hi).mpr ⟨en, b, h2, hle, insAt_getD.mp hb⟩
        have hf : other ∈ frees p.length used := mem_frees.mpr ⟨ho, h1⟩
        refine H ?_
        rcases hg with hg | hg
        · exact .hit hf hm hg
        · refine .step hf hm ha ?_
          rw [frees_or]
          exact hg
    · exact h
theorem enterM_snd {i : Ins} {used x : Nat} {ahead : Option S2} {L : Ents} (hi : i.acc = true) (H : Go p goal i (frees p.length used) → Go p goal i0 (frees p.length u0)) (h : Snd p goal i0 u0 L) : Snd p goal i0 u0 (enterM p i used x ahead L) :=
  foldl_inv _ _ h fun _ b hb ih => enterOne_snd hi (List.mem_range.mp hb) H ih
theorem goOn_snd {st : S2} {L : Ents} (h : Snd p goal i0 u0 L) : Snd p goal i0 u0 (goOnM p L st) := by
  unfold goOnM
  cases hl : look L st with
  | none => exact h
  | some z =>
    simp only
    refine foldl_inv _ _ h fun M a ha ih => ?_
    obtain ⟨h1, i, h2, h3⟩ := exits_good ha
    have h2' : insAt p st.2 a = some i := insAt_getD.mpr h2
    unfold goStep
    rw [h2']
    exact enterM_snd h3 (fun hg => h (st, z) (look_mem hl) a i h2' h1 h3 (.inr hg)) ih
theorem ways_snd {late : Nat} {home : Nat} (hi : i0.acc = true) : Snd p goal i0 (2 ^ home) (waysM p i0 home late) := by
  unfold waysM
  refine foldl_inv _ _ (enterM_snd hi (fun h => h) (fun z hz => by cases hz)) fun L used _ ih => ?_
  exact foldl_inv _ _ ih fun L th _ ih => goOn_snd ih
theorem hit_goes {late : Nat} {home : Nat} (hi : i0.acc = true) (hg : goal.acc = true) (h : hitM p goal (waysM p i0 home late) = true) : Go p goal i0 (frees p.length (2 ^ home)) := by
  unfold hitM at h
  obtain ⟨s, _, h⟩ := List.any_eq_true.mp h
  unfold hitS at h
  cases hl : look (waysM p i0 home late) s with
  | none => rw [hl] at h; cases h
  | some z =>
    rw [hl] at h
    obtain ⟨a, ha, h⟩ := List.any_eq_true.mp h
    obtain ⟨h1, i, h2, h3⟩ := exits_good ha
    have h2' : insAt p s.2 a = some i := insAt_getD.mpr h2
    unfold hitAt at h
    rw [h2'] at h
    refine ways_snd (p := p) (goal := goal) hi (s, z) (look_mem hl) a i h2' h1 h3 (.inl ?_)
    unfold lmeet
    rw [h3, hg]
    exact h
end
/-! ### each way of the law is entered -/
def Mo (L M : Ents) : Prop := ∀ s z, look L s = some z → ∃ z', look M s = some z' ∧ z'.1 ≤ z.1
theorem Mo.refl (L : Ents) : Mo L L := fun s z h => ⟨z, h, Nat.le_refl _⟩
theorem Mo.trans {L M N : Ents} (a : Mo L M) (b : Mo M N) : Mo L N := fun s z h => by
  obtain ⟨z1, h1, h2⟩ := a s z h
  obtain ⟨z2, h3, h4⟩ := b s z1 h1
  exact ⟨z2, h3, Nat.le_trans h4 h2⟩
def Fix (u : Nat) (L M : Ents) : Prop := ∀ s : S2, s.1 ≤ u → look M s = look L s
/-- a place behind s within en is known -/
def Has (L : Ents) (s : S2) (en : Nat) : Prop := ∃ z, look L s = some z ∧ z.1 ≤ en
theorem Has.mo {L M : Ents} {s : S2} {en : Nat} (h : Has L s en) (m : Mo L M) : Has M s en := by
  obtain ⟨z, h1, h2⟩ := h
  obtain ⟨z', h3, h4⟩ := m s z h1
  exact ⟨z', h3, Nat.le_trans h4 h2⟩
section
variable {p : Prog} {i : Ins} {used x other : Nat} {ahead : Option S2} {L : Ents}
theorem enterOne_mo : Mo L (enterOne p i used x ahead L other) := fun s z h => by
  unfold enterOne
  cases he : entM p i used other with
  | none => exact ⟨z, h, Nat.le_refl _⟩
  | some en =>
    simp only
    split
    · rename_i hb
      rw [look_put]
      split
      · rename_i hs
        refine ⟨_, rfl, ?_⟩
        unfold betterM at hb
        rw [← hs, h] at hb
        have := of_decide_eq_true hb
        exact Nat.le_of_lt this
      · exact ⟨z, h, Nat.le_refl _⟩
    · exact ⟨z, h, Nat.le_refl _⟩
theorem enterOne_fix : Fix used L (enterOne p i used x ahead L other) := fun s hs => by
  unfold enterOne
  cases he : entM p i used other with
  | none => rfl
  | some en =>
    simp only
    split
    · rw [look_put, if_neg]
      rintro rfl
      exact absurd (free_lt (entM_some.mp he).1) (Nat.not_lt.mpr hs)
    · rfl
theorem enterOne_has {en : Nat} (he : entM p i used other = some en) : Has (enterOne p i used x ahead L other) (laterS used other) en := by
  unfold enterOne
  rw [he]
  simp only
  split
  · exact ⟨_, by rw [look_put, if_pos rfl], Nat.le_refl _⟩
  · rename_i hb
    unfold betterM at hb
    cases hl : look L (laterS used other) with
    | none => rw [hl] at hb; exact absurd rfl hb
    | some z =>
      rw [hl] at hb
      simp only [decide_eq_true_eq] at hb
      exact ⟨z, hl, by omega⟩
end
theorem fold_mo {β : Type} {f : Ents → β → Ents} : ∀ (bs : List β) (L : Ents), (∀ M b, b ∈ bs → Mo M (f M b)) → Mo L (bs.foldl f L)
  | [], L, _ => .refl L
  | b :: bs, L, h => (h L b List.mem_cons_self).trans (fold_mo bs (f L b) fun M c hc => h M c (List.mem_cons_of_mem _ hc))
theorem fold_fix {β : Type} {f : Ents → β → Ents} {u : Nat} : ∀ (bs : List β) (L : Ents), (∀ M b, b ∈ bs → Fix u M (f M b)) → Fix u L (bs.foldl f L)
  | [], L, _ => fun _ _ => rfl
  | b :: bs, L, h => fun s hs => (fold_fix bs (f L b) (fun M c hc => h M c (List.mem_cons_of_mem _ hc)) s hs).trans (h L b List.mem_cons_self s hs)
theorem fold_has {β : Type} {f : Ents → β → Ents} {P : β → Ents → Prop} (hP : ∀ b M M', Mo M M' → P b M → P b M') : ∀ (bs : List β) (L : Ents), (∀ M b, b ∈ bs → Mo M (f M b)) → (∀ M b, b ∈ bs → P b (f M b)) → ∀ b ∈ bs, P b (bs.foldl f L)
  | [], _, _, _, _, h => by cases h
  | a :: bs, L, hm, h, b, hb => by
    rw [List.foldl_cons]
    have hm' : ∀ M c, c ∈ bs → Mo M (f M c) := fun M c hc => hm M c (List.mem_cons_of_mem _ hc)
    rcases List.mem_cons.mp hb with rfl | hb
    · exact hP b _ _ (fold_mo bs (f L b) hm') (h L b List.mem_cons_self)
    · exact fold_has hP bs (f L a) hm' (fun M c hc => h M c (List.mem_cons_of_mem _ hc)) b hb
/-- all that can be entered from an access with the threads of u used is known -/
def Src (p : Prog) (L : Ents) (i : Ins) (u : Nat) : Prop := ∀ o, o < p.length → ∀ en, entM p i u o = some en → Has L (laterS u o) en
theorem Src.mo {p : Prog} {L M : Ents} {i : Ins} {u : Nat} (h : Src p L i u) (m : Mo L M) : Src p M i u := fun o ho en he => (h o ho en he).mo m
section
variable {p : Prog} {i : Ins} {used x : Nat} {ahead : Option S2} {L : Ents}
theorem enterM_mo : Mo L (enterM p i used x ahead L) := fold_mo _ _ fun _ _ _ => enterOne_mo
theorem enterM_fix : Fix used L (enterM p i used x ahead L) := fold_fix _ _ fun _ _ _ => enterOne_fix
theorem enterM_src : Src p (enterM p i used x ahead L) i used := fun o ho en he =>
  fold_has (P := fun o M => ∀ en, entM p i used o = some en → Has M (laterS used o) en) (fun b M M' m h en he => (h en he).mo m) (List.range p.length) L (fun _ _ _ => enterOne_mo) (fun _ _ _ en he => enterOne_has he) o (List.mem_range.mpr ho) en he
end
def Clo (p : Prog) (L : Ents) (s : S2) : Prop := ∀ z, look L s = some z → ∀ a ∈ exitsM (p.getD s.2 []) z.1, ∀ i, insAt p s.2 a = some i → Src p L i s.1
theorem goStep_mo {p : Prog} {st : S2} {M : Ents} {a : Nat} : Mo M (goStep p st M a) := by
  unfold goStep
  split
  · exact enterM_mo
  · exact .refl _
theorem goStep_fix {p : Prog} {st : S2} {M : Ents} {a : Nat} : Fix st.1 M (goStep p st M a) := by
  unfold goStep
  split
  · exact enterM_fix
  · exact fun _ _ => rfl
theorem goOn_mo {p : Prog} {st : S2} {L : Ents} : Mo L (goOnM p L st) := by
  unfold goOnM
  split
  · exact .refl _
  · exact fold_mo _ _ fun _ _ _ => goStep_mo
theorem goOn_fix {p : Prog} {st : S2} {L : Ents} : Fix st.1 L (goOnM p L st) := by
  unfold goOnM
  split
  · exact fun _ _ => rfl
  · exact fold_fix _ _ fun _ _ _ => goStep_fix
theorem goOn_clo {p : Prog} {st : S2} {L : Ents} : Clo p (goOnM p L st) st := fun z hz => by
  rw [goOn_fix st (Nat.le_refl _)] at hz
  unfold goOnM
  rw [hz]
  intro a ha i hi
  refine fold_has (P := fun a M => ∀ i, insAt p st.2 a = some i → Src p M i st.1) (fun b M M' m h i hi => (h i hi).mo m) _ L (fun _ _ _ => goStep_mo) (fun M b _ i hi => ?_) a ha i hi
  unfold goStep
  rw [hi]
  exact enterM_src
theorem Clo.keep {p : Prog} {L M : Ents} {s : S2} {u : Nat} (h : Clo p L s) (hs : s.1 ≤ u) (f : Fix u L M) (m : Mo L M) : Clo p M s := fun z hz a ha i hi => by
  rw [f s hs] at hz
  exact (h z hz a ha i hi).mo m
theorem row_clo {p : Prog} {u : Nat} : ∀ (ths : List Nat) (L : Ents), (∀ s : S2, s.1 < u → s.2 < p.length → Clo p L s) →
    Mo L (ths.foldl (fun L th => goOnM p L (u, th)) L) ∧ (∀ s : S2, s.1 < u → s.2 < p.length → Clo p (ths.foldl (fun L th => goOnM p L (u, th)) L) s) ∧ ∀ th ∈ ths, Clo p (ths.foldl (fun L th => goOnM p L (u, th)) L) (u, th) := by
  intro ths
  induction ths with
  | nil => exact fun L h => ⟨.refl L, h, fun th h => by cases h⟩
  | cons a ths ih =>
    intro L h
    have f : Fix u L (goOnM p L (u, a)) := goOn_fix (st := (u, a))
    have m : Mo L (goOnM p L (u, a)) := goOn_mo
    obtain ⟨h1, h2, h3⟩ := ih (goOnM p L (u, a)) fun s hs hn => (h s hs hn).keep (Nat.le_of_lt hs) f m
    rw [List.foldl_cons]
    refine ⟨m.trans h1, h2, fun th hth => ?_⟩
    by_cases e : th ∈ ths
    · exact h3 th e
    · rcases List.mem_cons.mp hth with rfl | hth
      · have ff : Fix u (goOnM p L (u, th)) (ths.foldl (fun L th => goOnM p L (u, th)) (goOnM p L (u, th))) := fold_fix _ _ fun M b _ => goOn_fix (st := (u, b))
        exact (goOn_clo (p := p) (st := (u, th)) (L := L)).keep (Nat.le_refl _) ff h1
      · exact absurd hth e
theorem all_clo {p : Prog} (L : Ents) : ∀ u, Mo L ((List.range u).foldl (fun L used => (List.range p.length).foldl (fun L th => goOnM p L (used, th)) L) L) ∧
    ∀ s : S2, s.1 < u → s.2 < p.length → Clo p ((List.range u).foldl (fun L used => (List.range p.length).foldl (fun L th => goOnM p L (used, th)) L) L) s
  | 0 => ⟨.refl L, fun s h => absurd h (Nat.not_lt_zero _)⟩
  | u + 1 => by
    obtain ⟨h1, h2⟩ := all_clo L u
    rw [List.range_succ, List.foldl_append, List.foldl_cons, List.foldl_nil]
    obtain ⟨a, b, c⟩ := row_clo (p := p) (u := u) (List.range p.length) _ h2
    refine ⟨h1.trans a, fun s hs hn => ?_⟩
    rcases Nat.lt_or_ge s.1 u with h | h
    · exact b s h hn
    · obtain ⟨s1, s2⟩ := s
      simp only at h hs hn
      have e : s1 = u := by omega
      subst e
      exact c s2 (List.mem_range.mpr hn)
section
variable {p : Prog} {goal : Ins} {L : Ents}
theorem src_at (hL : ∀ s z, look L s = some z → Clo p L s) {s : S2} {z : En} (hs : look L s = some z) {b : Nat} {o : Ins} (hb : insAt p s.2 b = some o) (hz : z.1 ≤ b) (ho : o.acc = true) : Src p L o s.1 := by
  obtain ⟨a, ha, j, hj, hja, hk⟩ := exits_has hz (insAt_getD.mp hb) ho
  have hsrc := hL s z hs z hs a ha j (insAt_getD.mpr hj)
  intro t ht en he
  refine hsrc t ht en ?_
  obtain ⟨h1, h2⟩ := entM_some.mp he
  refine entM_some.mpr ⟨h1, ?_⟩
  rw [first_lmeet ho] at h2
  rw [first_lmeet hja, show lmeet j = lmeet o from funext fun x => (key_meet hja ho hk x).1]
  exact h2
theorem hit_at {s : S2} {z : En} (hs : look L s = some z) {b : Nat} {o : Ins} (hb : insAt p s.2 b = some o) (hz : z.1 ≤ b) (ho : o.acc = true) (hm : lmeet o goal = true) : hitM p goal L = true := by
  obtain ⟨a, ha, j, hj, hja, hk⟩ := exits_has hz (insAt_getD.mp hb) ho
  unfold hitM
  refine List.any_eq_true.mpr ⟨s, List.mem_map.mpr ⟨(s, z), look_mem hs, rfl⟩, ?_⟩
  unfold hitS
  rw [hs]
  refine List.any_eq_true.mpr ⟨a, ha, ?_⟩
  unfold hitAt
  rw [insAt_getD.mpr hj]
  rw [← (key_meet hja ho hk goal).1] at hm
  unfold lmeet at hm
  rw [Bool.and_eq_true, Bool.and_eq_true] at hm
  exact hm.2.2
theorem goes_hit (hL : ∀ s z, look L s = some z → Clo p L s) {one : Ins} {free : List Nat} (h : Go p goal one free) : ∀ u, free = frees p.length u → one.acc = true → Src p L one u → hitM p goal L = true := by
  have place : ∀ {one o : Ins} {t u : Nat}, t ∈ frees p.length u → one.acc = true → o ∈ sufM p one t → Src p L one u → ∃ z b, look L (laterS u t) = some z ∧ insAt p (laterS u t).2 b = some o ∧ z.1 ≤ b := by
    intro one o t u ht ha ho hs
    obtain ⟨h1, h2⟩ := mem_frees.mp ht
    obtain ⟨en, b, h3, h4, h5⟩ := (mem_suf ha).mp ho
    obtain ⟨z, h6, h7⟩ := hs t h1 en (entM_some.mpr ⟨h2, h3⟩)
    exact ⟨z, b, h6, insAt_getD.mpr h5, Nat.le_trans h7 h4⟩
  induction h with
  | hit ht ho hm =>
    rintro u rfl ha hs
    obtain ⟨z, b, h1, h2, h3⟩ := place ht ha ho hs
    have hacc : _ = true := (Bool.and_eq_true _ _ ▸ hm : _ ∧ _).1
    exact hit_at h1 h2 h3 hacc hm
  | @step one o free t ht ho hacc _ ih =>
    rintro u rfl ha hs
    obtain ⟨z, b, h1, h2, h3⟩ := place ht ha ho hs
    exact ih (u ||| 2 ^ t) (frees_or _ _ _) hacc (src_at hL h1 h2 h3 hacc)
end
/-- live for the program, live for the law -/
theorem live_same {p : Prog} (hp : ProgOk p) {wd : Str} {room : Int} {x : Tri} (hx : x ∈ looseM p wd room) : ringB p x = liveT p x := by
  obtain ⟨i, j, hi, hj, hs, ha, _⟩ := loose_mem hx
  have hia : i.acc = true := by cases i <;> first | rfl | cases hs
  unfold ringB liveT
  rw [hi, hj]
  simp only
  rw [Bool.eq_iff_iff]
  obtain ⟨r, hr, _⟩ := insAt_row hj
  have hh : x.1 < p.length := (List.getElem?_eq_some_iff.mp hr).1
  constructor
  · intro h
    have := hit_goes ha hia h
    rw [← freeM_eq] at this
    exact goes_of this _ (Nat.le_refl _)
  · intro h
    have g := go_of _ _ _ h
    rw [freeM_eq] at g
    have all := ways_all hp (i := j) (late := x.2.2) hh
    have cl := all_clo (p := p) (enterM p j (2 ^ x.1) x.2.2 none []) (2 ^ p.length)
    refine goes_hit (L := waysM p j x.1 x.2.2) (fun s z hz => ?_) g (2 ^ x.1) rfl ha ?_
    · have hm := look_mem hz
      exact cl.2 s (all.lt _ hm) (all.ok _ hm).1
    · exact (enterM_src (p := p) (i := j) (used := 2 ^ x.1) (x := x.2.2) (ahead := none) (L := [])).mo cl.1
theorem liveM_iff {p : Prog} {wd : Str} {room : Int} {y : Tri} : y ∈ liveM p wd room ↔ y ∈ looseM p wd room ∧ ringB p y = true := by
  refine ⟨liveM_mem, fun ⟨h1, h2⟩ => ?_⟩
  have sub : ∀ (xs : List Tri) (M : List Tri), ∀ z ∈ M, z ∈ xs.foldl (liveStep p) M := by
    intro xs
    induction xs with
    | nil => exact fun M z h => h
    | cons a xs ih =>
      intro M z hz
      refine ih _ z ?_
      unfold liveStep
      split
      · split
        · exact hz
        · exact List.mem_append_left _ hz
      · exact hz
  have key : ∀ (xs : List Tri) (M : List Tri), y ∈ xs → y ∈ xs.foldl (liveStep p) M := by
    intro xs
    induction xs with
    | nil => exact fun M h => by cases h
    | cons a xs ih =>
      intro M hy
      rw [List.foldl_cons]
      rcases List.mem_cons.mp hy with rfl | hy
      · refine sub xs _ y ?_
        unfold liveStep
        rw [if_pos h2]
        split
        · assumption
        · simp
      · exact ih _ hy
  exact key _ [] h1
theorem live_mem {p : Prog} (hp : ProgOk p) {wd : Str} {room : Int} {y : Tri} : y ∈ liveLM p wd room ↔ y ∈ liveM p wd room := by
  unfold liveLM
  rw [List.mem_filter, liveM_iff]
  constructor
  · exact fun ⟨h1, h2⟩ => ⟨h1, by rw [live_same hp h1]; exact h2⟩
  · exact fun ⟨h1, h2⟩ => ⟨h1, by rw [← live_same hp h1]; exact h2⟩
end RF
set_option Elab.async false
set_option linter.all false
set_option maxRecDepth 100000
set_option maxHeartbeats 4000000
/-! the plain law: one thread -/
namespace RF
open PySem PySem.Spec L2 LamX NdefX
open PySem.W (dataLe dataLt)

/-! ### remedies by their place -/
def posR (x : Rem) : Nat := 2 * x.2.2 + (if x.1 = true then 1 else 0)
theorem cuts_pos (x : Rem) (y : Tri) : cutsM x y = true ↔ x.2.1 = y.1 ∧ 2 * y.2.1 + 1 ≤ posR x ∧ posR x ≤ 2 * y.2.2 + 1 := by
  obtain ⟨b, t, a⟩ := x
  obtain ⟨t', e, l⟩ := y
  unfold cutsM posR
  cases b <;> simp <;> omega
def Asc (L : List Rem) : Prop := L.Pairwise fun x x' => x.2.1 = x'.2.1 → posR x ≤ posR x'
theorem last_cuts {L : List Rem} {y : Tri} (h : L.filter (fun x => cutsM x y) ≠ []) : lastM L y ∈ L ∧ cutsM (lastM L y) y = true := by
  obtain ⟨zs, e⟩ := last_of h
  have : lastM L y ∈ L.filter (fun x => cutsM x y) := by rw [e]; simp
  exact ⟨(List.mem_filter.mp this).1, (List.mem_filter.mp this).2⟩
theorem last_max {L : List Rem} (hL : Asc L) {x : Rem} {y : Tri} (hx : x ∈ L) (hc : cutsM x y = true) : posR x ≤ posR (lastM L y) := by
  have hm : x ∈ L.filter (fun x => cutsM x y) := List.mem_filter.mpr ⟨hx, hc⟩
  have hn : L.filter (fun x => cutsM x y) ≠ [] := fun e => by rw [e] at hm; cases hm
  obtain ⟨zs, e⟩ := last_of hn
  have hp := List.Pairwise.filter (fun x => cutsM x y) hL
  rw [e] at hm hp
  rcases List.mem_append.mp hm with h | h
  · refine (List.pairwise_append.mp hp).2.2 x h (lastM L y) (by simp) ?_
    rw [((cuts_pos _ _).mp hc).1, ((cuts_pos _ _).mp (last_cuts hn).2).1]
  · rw [List.mem_singleton.mp h]
    exact Nat.le_refl _
/-- pairs in the order of their last remedies -/
theorem order_cut {L : List Rem} (hL : Asc L) {S : List Tri} (hn : ∀ y ∈ S, L.filter (fun x => cutsM x y) ≠ []) (hS : S.Pairwise fun q q' => q.1 = q'.1 → posR (lastM L q) ≤ posR (lastM L q')) :
    S.Pairwise fun q q' => ∀ x ∈ L, cutsM x q = true → cutsM x q' = true → cutsM (lastM L q) q' = true := by
  refine hS.imp_of_mem fun {q q'} hq hq' h x hx h1 h2 => ?_
  have a := (cuts_pos _ _).mp h1
  have b := (cuts_pos _ _).mp h2
  have c := (cuts_pos _ _).mp (last_cuts (hn q hq)).2
  have d := (cuts_pos _ _).mp (last_cuts (hn q' hq')).2
  have m := last_max hL hx h1
  have o := h (a.1.symm.trans b.1)
  exact (cuts_pos _ _).mpr ⟨c.1.trans (a.1.symm.trans b.1), by omega, by omega⟩

/-! ### rows of the search -/
theorem rk_ltR {x y : Rem} (hx : x.2.2 ≤ 6) (hy : y.2.2 ≤ 6) (ht : x.2.1 = y.2.1) (h : rk x < rk y) : ltR x y = true := by
  rw [ltR_eq]
  obtain ⟨b, t, a⟩ := x
  obtain ⟨c, t', a'⟩ := y
  unfold rk at h
  simp only at h hx hy ht ⊢
  subst ht
  cases b <;> cases c <;> simp at h ⊢ <;> omega
theorem rows_has {us : List Rem} : ∀ (k : Nat) (row : List Rem), row.length = k → (∀ x ∈ row, x ∈ us) → row.Pairwise (fun x y => ltR x y = true) → row ∈ rowsM us k
  | 0, row, hl, _, _ => by
    rw [List.eq_nil_of_length_eq_zero hl]
    simp [rowsM]
  | k + 1, row, hl, hu, hp => by
    obtain ⟨r0, x, rfl⟩ : ∃ r0 x, row = r0 ++ [x] := by
      rcases List.eq_nil_or_concat row with e | ⟨a, b, e⟩
      · subst e
        cases hl
      · exact ⟨a, b, by simpa using e⟩
    rw [List.pairwise_append] at hp
    have ih := rows_has k r0 (by simpa using hl) (fun z hz => hu z (List.mem_append_left _ hz)) hp.1
    refine List.mem_flatMap.mpr ⟨r0, ih, List.mem_map.mpr ⟨x, List.mem_filter.mpr ⟨hu x (by simp), ?_⟩, rfl⟩⟩
    unfold nextOk
    cases hr : r0.getLast? with
    | none =>
      rw [List.getLast?_eq_none_iff.mp hr]
      rfl
    | some y =>
      simp only
      rw [hp.2.2 y (List.mem_of_getLast? hr) x (by simp), Bool.or_true]
/-- a cover and as many pairs apart -/
theorem small_is {rs : List Rem} {ps Q : List Tri} {C : List Rem} {d : PyData} (ot : OneThread rs) (nd : C.Nodup) (hC : ∀ x ∈ C, x ∈ rs) (hcov : ∀ y ∈ ps, ∃ x ∈ C, cutsM x y = true) (hQ : ∀ q ∈ Q, q ∈ ps) (h1 : ∀ x ∈ rs, (Q.filter (cutsM x)).length ≤ 1) (hk : C.length = Q.length)
    (h : SmallAns rs ps d) : d = .int (C.length : Nat) := by
  rcases h with ⟨hp, rfl⟩ | ⟨hp, h⟩
  · subst hp
    cases Q with
    | nil => rw [hk]; rfl
    | cons q Q => exact absurd (hQ q List.mem_cons_self) (by simp)
  · have hU : ∀ x ∈ usefulM rs ps, x ∈ rs := fun x hx => (List.mem_filter.mp hx).1
    -- no smaller row
    have low : ∀ row : List Rem, (∀ x ∈ row, x ∈ rs) → (∀ y ∈ ps, ∃ x ∈ row, cutsM x y = true) → Q.length ≤ row.length := fun row hr hc =>
      cover_len cutsM row Q (fun q hq => hc q (hQ q hq)) fun x hx => h1 x (hr x hx)
    -- the useful ones of C
    let C' := C.filter fun x => ps.any fun y => cutsM x y
    have hC' : ∀ x ∈ C', x ∈ usefulM rs ps := fun x hx => List.mem_filter.mpr ⟨hC x (List.mem_filter.mp hx).1, (List.mem_filter.mp hx).2⟩
    have cov' : ∀ y ∈ ps, ∃ x ∈ C', cutsM x y = true := fun y hy => by
      obtain ⟨x, hx, hc⟩ := hcov y hy
      exact ⟨x, List.mem_filter.mpr ⟨hx, List.any_eq_true.mpr ⟨y, hy, hc⟩⟩, hc⟩
    have len' : C'.length = C.length := Nat.le_antisymm (List.length_filter_le _ _) (by rw [hk]; exact low C' (fun x hx => hU x (hC' x hx)) cov')
    -- in order
    obtain ⟨t, ht⟩ := ot.2
    let row := C'.mergeSort fun x y => decide (rk x ≤ rk y)
    have perm : row.Perm C' := List.mergeSort_perm _ _
    have hrow : ∀ x ∈ row, x ∈ usefulM rs ps := fun x hx => hC' x (perm.mem_iff.mp hx)
    have sorted : row.Pairwise fun x y => ltR x y = true := by
      have s1 : row.Pairwise fun x y => decide (rk x ≤ rk y) = true := List.pairwise_mergeSort (fun a b c h1 h2 => by simp at h1 h2 ⊢; omega) (fun a b => by simp; omega) C'
      have nd' : row.Nodup := perm.nodup_iff.mpr (nd.filter _)
      refine (s1.and nd').imp_of_mem fun {x y} hx hy ⟨h1, h2⟩ => ?_
      have hx' := ht x (hU x (hrow x hx))
      have hy' := ht y (hU y (hrow y hy))
      have hle := of_decide_eq_true h1
      refine rk_ltR hx'.2 hy'.2 (hx'.1.trans hy'.1.symm) (Nat.lt_of_le_of_ne hle fun e => h2 (rk_inj hx'.2 hy'.2 (hx'.1.trans hy'.1.symm) e))
    have hat : covAt rs ps C.length = true := by
      unfold covAt
      refine List.any_eq_true.mpr ⟨row, rows_has C.length row (by rw [← len']; exact perm.length_eq) hrow sorted, ?_⟩
      unfold coversM
      refine List.all_eq_true.mpr fun y hy => ?_
      obtain ⟨x, hx, hc⟩ := cov' y hy
      exact List.any_eq_true.mpr ⟨x, perm.mem_iff.mpr hx, hc⟩
    have bel : ∀ j, covAt rs ps j = true → C.length ≤ j := fun j hj => by
      unfold covAt at hj
      obtain ⟨r, hr, hc⟩ := List.any_eq_true.mp hj
      obtain ⟨e, hi⟩ := rows_in j r hr
      rw [hk, ← e]
      refine low r (fun x hx => hU x (hi x hx)) fun y hy => ?_
      unfold coversM at hc
      exact List.any_eq_true.mp (List.all_eq_true.mp hc y hy)
    have pos : 1 ≤ C.length := by
      obtain ⟨y, ps', e⟩ := List.exists_cons_of_ne_nil hp
      obtain ⟨x, hx, _⟩ := hcov y (by rw [e]; simp)
      exact List.length_pos_of_mem hx
    have ndu : C'.length ≤ (usefulM rs ps).length := nodup_le (nd.filter _) hC'
    rcases h with ⟨k, hk1, hk2, hk3, hk4, rfl⟩ | ⟨hno, _⟩
    · have a := bel k hk3
      have b : ¬ C.length < k := fun hlt => by
        have := hk4 C.length pos hlt
        rw [hat] at this
        cases this
      rw [show k = C.length by omega]
    · have := hno C.length pos (by omega)
      rw [hat] at this
      cases this
/-- the answer for a thread -/
theorem thread_ans {p : Prog} (hp : ProgOk p) {wd : Str} {room : Int} {last : Tri → Rem} {rs : List Rem} {S Q : List Tri} (G : Good cutsM last rs S Q) (hS : ∀ y, y ∈ S ↔ y ∈ liveM p wd room) (hl : ∀ y ∈ S, last y ∈ rs ∧ cutsM (last y) y = true)
    {t : Nat} {rt : List Rem} (ot : OneThread rt) (hr : ∀ x, x ∈ rt ↔ x ∈ rs ∧ x.2.1 = t) {d : PyData} (h : SmallAns rt (mineM p wd room t) d) : d = .int ((Q.filter fun y => decide (y.1 = t)).length : Nat) := by
  have hQS : ∀ q ∈ Q, q ∈ S := fun q hq => G.sub.subset hq
  have hth : ∀ q ∈ Q, (last q).2.1 = q.1 := fun q hq => ((cuts_pos _ _).mp (hl q (hQS q hq)).2).1
  have e := small_is (C := (Q.filter fun y => decide (y.1 = t)).map last) (Q := Q.filter fun y => decide (y.1 = t)) ot ?_ ?_ ?_ ?_ ?_ ?_ h
  · rw [List.length_map] at e
    exact e
  · exact G.nd.sublist ((List.filter_sublist).map last)
  · intro x hx
    obtain ⟨q, hq, rfl⟩ := List.mem_map.mp hx
    obtain ⟨hq, ht⟩ := List.mem_filter.mp hq
    rw [hr]
    exact ⟨(hl q (hQS q hq)).1, (hth q hq).trans (of_decide_eq_true ht)⟩
  · intro y hy
    obtain ⟨hy, ht⟩ := List.mem_filter.mp hy
    obtain ⟨q, hq, hc⟩ := G.cov y ((hS y).mpr ((live_mem hp).mp hy))
    refine ⟨last q, List.mem_map.mpr ⟨q, List.mem_filter.mpr ⟨hq, ?_⟩, rfl⟩, hc⟩
    rw [← hth q hq, ((cuts_pos _ _).mp hc).1]
    exact ht
  · intro q hq
    obtain ⟨hq, ht⟩ := List.mem_filter.mp hq
    exact List.mem_filter.mpr ⟨(live_mem hp).mpr ((hS q).mp (hQS q hq)), ht⟩
  · intro x hx
    exact Nat.le_trans (filter_comm_le _ _ _) (G.one x ((hr x).mp hx).1)
  · rw [List.length_map]
end RF
set_option Elab.async false
set_option linter.all false
set_option maxRecDepth 100000
set_option maxHeartbeats 4000000
/-! the plain law: the fewest, the cheapest -/
namespace RF
open PySem PySem.Spec L2 LamX NdefX
open PySem.W (dataLe dataLt alike alikeAll)

theorem sorted_by {β : Type} (k : β → PyData) (L : List β) : (L.mergeSort (dataLe false k)).Pairwise fun a b => dataLt (k b) (k a) = false :=
  (PySem.W.sort_pairwise (PySem.W.sortLe_total (PyProof.Rows.listOrd PyProof.Rows.itemOrd) false fun b => PySem.W.keyToks (k b)) L).imp fun {a b} h => by
    have h' : (!dataLt (k b) (k a)) = true := h
    simpa using h'
theorem eqv_nat (a b : Nat) : PyData.eqv (.int (a : Int)) (.int (b : Int)) = decide (a = b) := by
  rw [PyData.eqv]
  by_cases h : a = b <;> simp [h, Int.natCast_inj]
/-! ### remedies of one word, in order -/
theorem rems_iff {p : Prog} {b : Bool} {x : Rem} : x ∈ remsM p b ↔ x ∈ everyM p ∧ x.1 = b := by
  rw [every_mem]
  obtain ⟨c, t, a⟩ := x
  unfold remsM
  rw [List.mem_flatMap]
  constructor
  · rintro ⟨⟨r, t'⟩, h1, h2⟩
    unfold remsR at h2
    obtain ⟨a', ha, e⟩ := List.mem_map.mp h2
    cases e
    obtain ⟨h3, h4⟩ := List.mem_filter.mp ha
    rw [List.mem_range] at h3
    refine ⟨⟨r, (mem_zipIdx_row h1).2, ?_⟩, rfl⟩
    unfold isRemM at h4
    cases b with
    | false => simpa using h4
    | true =>
      simp only [if_true, Bool.and_eq_true, decide_eq_true_eq] at h4 ⊢
      obtain ⟨h4, h5⟩ := h4
      have h4' : a < r.length := h4
      refine ⟨r[a], List.getElem?_eq_getElem h4', ?_⟩
      rw [List.getElem?_eq_getElem h4'] at h5
      simpa using h5
  · rintro ⟨⟨r, h1, h2⟩, rfl⟩
    refine ⟨(r, t), List.mem_zipIdx_iff_getElem?.mpr h1, List.mem_map.mpr ⟨a, List.mem_filter.mpr ?_, rfl⟩⟩
    unfold isRemM
    rw [List.mem_range]
    cases c with
    | false =>
      simp at h2 ⊢
      omega
    | true =>
      simp only [if_true] at h2 ⊢
      obtain ⟨i, h3, h4⟩ := h2
      have := (List.getElem?_eq_some_iff.mp h3).1
      refine ⟨by show a < r.length + 1; omega, ?_⟩
      rw [h3]
      simp [this, h4]
theorem rems_asc (p : Prog) (b : Bool) : Asc (remsM p b) := by
  unfold Asc remsM
  rw [List.pairwise_flatMap]
  refine ⟨fun x _ => ?_, (zip_pair p 0).imp fun {x y} h z hz w hw e => ?_⟩
  · unfold remsR
    rw [List.pairwise_map]
    refine (List.Pairwise.filter _ (List.pairwise_lt_range (n := x.1.length + 1))).imp fun {a a'} h _ => ?_
    unfold posR
    simp only
    omega
  · unfold remsR at hz hw
    obtain ⟨_, _, rfl⟩ := List.mem_map.mp hz
    obtain ⟨_, _, rfl⟩ := List.mem_map.mp hw
    exact absurd e h
theorem keyF_ord {rs : List Rem} {q q' : Tri} (h : dataLt (keyF rs q') (keyF rs q) = false) (ht : q.1 = q'.1) (hw : (lastM rs q).1 = (lastM rs q').1) (hth : (lastM rs q).2.1 = (lastM rs q').2.1) : posR (lastM rs q) ≤ posR (lastM rs q') := by
  unfold keyF at h
  rw [PySem.W.dataLt_tuple, PySem.W.dataLt_cons (by simp [alike]), eqv_nat, if_pos (by simp [ht]), PySem.W.dataLt_cons (by simp [encR, alike, alikeAll])] at h
  split at h
  · rename_i he
    rw [eqv_encR, decide_eq_true_eq] at he
    rw [he]
    exact Nat.le_refl _
  · have h' : ltR (lastM rs q') (lastM rs q) = false := h
    rw [ltR_eq] at h'
    unfold posR
    rw [hw]
    simp only [hw, hth] at h'
    cases (lastM rs q').1 <;> simp at h' ⊢ <;> omega
theorem ptD_ord {x y : Rem} (h : dataLt (ptD y) (ptD x) = false) (ht : x.2.1 = y.2.1) : posR x ≤ posR y := by
  obtain ⟨b, t, a⟩ := x
  obtain ⟨c, t', a'⟩ := y
  simp only at ht
  subst ht
  unfold ptD at h
  rw [PySem.W.dataLt_tuple, PySem.W.dataLt_cons (by simp [alike]), eqv_nat, if_pos (by simp), PySem.W.dataLt_cons (by simp [alike]), eqv_nat] at h
  unfold posR
  split at h
  · rename_i he
    simp only [decide_eq_true_eq] at he
    subst he
    rw [PySem.W.dataLt_cons (by simp [alike]), wordOf_eqv, word_lt] at h
    cases b <;> cases c <;> simp at h ⊢
  · rename_i he
    rw [PySem.W.dataLt_int] at h
    simp at he h ⊢
    split <;> split <;> omega
theorem line_asc (rs : List Rem) : Asc (lineM rs) := (sorted_by ptD rs).imp fun {x y} h ht => ptD_ord h ht
theorem line_ord {line : List Rem} (hL : Asc line) {x y : Rem} (hx : x ∈ line) (hy : y ∈ line) (ht : x.2.1 = y.2.1) (h : ptM line x ≤ ptM line y) : posR x ≤ posR y := by
  have get : ∀ {z : Rem}, z ∈ line → ∃ hl : ptM line z < line.length, line[ptM line z] = z := fun {z} hz => by
    have hlt : ptM line z < line.length := List.findIdx_lt_length_of_exists ⟨_, hz, by simp⟩
    refine ⟨hlt, ?_⟩
    have := List.findIdx_getElem (p := fun u => decide (u = z)) (xs := line) (w := hlt)
    exact of_decide_eq_true this
  obtain ⟨h1, e1⟩ := get hx
  obtain ⟨h2, e2⟩ := get hy
  rcases Nat.lt_or_eq_of_le h with h | h
  · have := List.pairwise_iff_getElem.mp hL _ _ h1 h2 h
    rw [e1, e2] at this
    exact this ht
  · have : x = y := by
      rw [← e1, ← e2]
      congr 1
    rw [this]
    exact Nat.le_refl _
theorem keyP_ord {line : List Rem} {q q' : Tri} (h : dataLt (keyP line q') (keyP line q) = false) : ptM line (lastM line q) ≤ ptM line (lastM line q') := by
  unfold keyP at h
  rw [PySem.W.dataLt_tuple, PySem.W.dataLt_cons (by simp [alike]), eqv_nat] at h
  split at h
  · rename_i he
    simp only [decide_eq_true_eq] at he
    omega
  · rw [PySem.W.dataLt_int] at h
    simp at h
    omega
/-! ### from_the_left -/
theorem ftl_greedy (rs : List Rem) : ∀ (S Q : List Tri), S.foldl (ftlStep rs) (Q.map (lastM rs), Q) = ((greedy cutsM (lastM rs) Q S).map (lastM rs), greedy cutsM (lastM rs) Q S)
  | [], Q => rfl
  | y :: S, Q => by
    have e : coversM (Q.map (lastM rs)) [y] = Q.any fun q => cutsM (lastM rs q) y := by
      unfold coversM
      simp [List.any_map, Function.comp_def]
    rw [List.foldl_cons]
    unfold greedy ftlStep
    simp only [e]
    split
    · exact ftl_greedy rs S Q
    · have := ftl_greedy rs S (Q ++ [y])
      rw [List.map_append] at this
      exact this
def srtF (p : Prog) (b : Bool) (wd : Str) (room : Int) : List Tri := (liveM p wd room).mergeSort (dataLe false (keyF (remsM p b)))
def ftlQ (p : Prog) (b : Bool) (wd : Str) (room : Int) : List Tri := greedy cutsM (lastM (remsM p b)) [] (srtF p b wd room)
theorem ftl_eq (p : Prog) (b : Bool) (wd : Str) (room : Int) : ftlM p b wd room = ((ftlQ p b wd room).map (lastM (remsM p b)), ftlQ p b wd room) := ftl_greedy (remsM p b) (srtF p b wd room) []
theorem srtF_mem {p : Prog} {b : Bool} {wd : Str} {room : Int} {y : Tri} : y ∈ srtF p b wd room ↔ y ∈ liveM p wd room := List.mem_mergeSort
theorem srtF_rem {p : Prog} {b : Bool} {wd : Str} {room : Int} : ∀ y ∈ srtF p b wd room, (remsM p b).filter (fun x => cutsM x y) ≠ [] := fun y hy => live_rem b (liveM_mem (srtF_mem.mp hy)).1
theorem ftl_good (p : Prog) (b : Bool) (wd : Str) (room : Int) : Good cutsM (lastM (remsM p b)) (remsM p b) (srtF p b wd room) (ftlQ p b wd room) := by
  refine greedy_good (fun y hy => (last_cuts (srtF_rem y hy)).2) (order_cut (rems_asc p b) srtF_rem ?_)
  refine (sorted_by (keyF (remsM p b)) (liveM p wd room)).imp_of_mem fun {q q'} hq hq' h ht => ?_
  have a := last_cuts (srtF_rem (b := b) q hq)
  have c := last_cuts (srtF_rem (b := b) q' hq')
  exact keyF_ord h ht ((rems_iff.mp a.1).2.trans (rems_iff.mp c.1).2.symm) (((cuts_pos _ _).mp a.2).1.trans (ht.trans ((cuts_pos _ _).mp c.2).1.symm))
/-! ### the market -/
theorem pay_greedy {line : List Rem} (nd : line.Nodup) : ∀ (ys Q : List Tri) (R : List (Rem × Int)), RestOk line R → (∀ y ∈ ys, someM line y ≠ []) → (∀ q ∈ Q, lastM line q ∈ line ∧ cutsM (lastM line q) q = true) → (∀ x ∈ line, lk R x = if (Q.any fun q => cutsM x q) = true then 0 else 1) →
    (∀ q ∈ Q, ∀ y ∈ ys, ∀ x ∈ line, cutsM x q = true → cutsM x y = true → cutsM (lastM line q) y = true) → (ys.Pairwise fun q y => ∀ x ∈ line, cutsM x q = true → cutsM x y = true → cutsM (lastM line q) y = true) →
    (ys.foldl (payStep line) (R, Q.map (lastM line))).2 = (greedy cutsM (lastM line) Q ys).map (lastM line)
  | [], Q, R, _, _, _, _, _, _ => rfl
  | y :: ys, Q, R, hR, hs, hQ, hlk, hQy, hpw => by
    have hsy := hs y List.mem_cons_self
    obtain ⟨hR', _, hlook⟩ := restM_ok y nd hR
    rw [List.pairwise_cons] at hpw
    have hs' : ∀ z ∈ ys, someM line z ≠ [] := fun z hz => hs z (List.mem_cons_of_mem _ hz)
    have hmem : leastM line R y ∈ (someM line y).map (lk R) := minL_mem (by simpa using hsy)
    have hle : ∀ x ∈ someM line y, leastM line R y ≤ lk R x := fun x hx => minL_le _ (List.mem_map.mpr ⟨x, hx, rfl⟩)
    have hin : ∀ x, x ∈ someM line y ↔ x ∈ line ∧ cutsM x y = true := fun x => List.mem_filter
    rw [List.foldl_cons]
    unfold greedy
    by_cases ha : (Q.any fun q => cutsM (lastM line q) y) = true
    · rw [if_pos ha]
      obtain ⟨q, hq, hc⟩ := List.any_eq_true.mp ha
      have hx0 : lastM line q ∈ someM line y := (hin _).mpr ⟨(hQ q hq).1, hc⟩
      have e0 : lk R (lastM line q) = 0 := by
        rw [hlk _ (hQ q hq).1, if_pos (List.any_eq_true.mpr ⟨q, hq, (hQ q hq).2⟩)]
      have el : leastM line R y = 0 := by
        have h1 := hle _ hx0
        rw [e0] at h1
        obtain ⟨x, hx, e⟩ := List.mem_map.mp hmem
        have h2 := hlk x ((hin x).mp hx).1
        rw [e] at h2
        split at h2 <;> omega
      have est : payStep line (R, Q.map (lastM line)) y = (restM line R y, Q.map (lastM line)) := by
        unfold payStep
        simp only
        rw [if_pos (List.any_eq_true.mpr ⟨_, hx0, decide_eq_true (List.mem_map.mpr ⟨q, hq, rfl⟩)⟩)]
      rw [est]
      refine pay_greedy nd ys Q _ hR' hs' hQ (fun x hx => ?_) (fun q hq z hz => hQy q hq z (List.mem_cons_of_mem _ hz)) hpw.2
      rw [← hlk x hx]
      show (look (restM line R y) x).getD 0 = lk R x
      rw [hlook x, el]
      split
      · simp
      · rfl
    · rw [if_neg ha]
      have none : ∀ x ∈ someM line y, ∀ q ∈ Q, ¬ cutsM x q = true := fun x hx q hq hc =>
        ha (List.any_eq_true.mpr ⟨q, hq, hQy q hq y List.mem_cons_self x ((hin x).mp hx).1 hc ((hin x).mp hx).2⟩)
      have one : ∀ x ∈ someM line y, lk R x = 1 := fun x hx => by
        rw [hlk x ((hin x).mp hx).1, if_neg]
        intro h
        obtain ⟨q, hq, hc⟩ := List.any_eq_true.mp h
        exact none x hx q hq hc
      have el : leastM line R y = 1 := by
        obtain ⟨x, hx, e⟩ := List.mem_map.mp hmem
        rw [← e, one x hx]
      have elk : ∀ x, lk (restM line R y) x = if x ∈ someM line y then 0 else lk R x := fun x => by
        show (look (restM line R y) x).getD 0 = _
        rw [hlook x, el]
        split
        · rename_i hx
          simp [one x hx]
        · rfl
      have hpd : ∀ x ∈ someM line y, ¬ x ∈ Q.map (lastM line) := fun x hx h => by
        obtain ⟨q, hq, rfl⟩ := List.mem_map.mp h
        exact ha (List.any_eq_true.mpr ⟨q, hq, ((hin _).mp hx).2⟩)
      have enew : newM line (R, Q.map (lastM line)) y = someM line y := by
        unfold newM
        rw [List.filter_eq_self]
        intro x hx
        rw [elk x, if_pos hx]
        simp only [decide_true, Bool.true_and, Bool.not_eq_true', decide_eq_false_iff_not]
        exact hpd x hx
      have est : payStep line (R, Q.map (lastM line)) y = (restM line R y, (Q ++ [y]).map (lastM line)) := by
        unfold payStep
        rw [enew]
        simp only
        rw [if_neg]
        · rw [List.map_append]
          rfl
        · intro h
          obtain ⟨x, hx, hc⟩ := List.any_eq_true.mp h
          exact hpd x hx (of_decide_eq_true hc)
      rw [est]
      have hyl := last_cuts (L := line) (y := y) hsy
      refine pay_greedy nd ys (Q ++ [y]) _ hR' hs' (fun q hq => ?_) (fun x hx => ?_) (fun q hq z hz => ?_) hpw.2
      · rcases List.mem_append.mp hq with hq | hq
        · exact hQ q hq
        · rw [List.mem_singleton.mp hq]
          exact hyl
      · rw [elk x, List.any_append]
        by_cases hc : cutsM x y = true
        · rw [if_pos ((hin x).mpr ⟨hx, hc⟩), if_pos (by simp [hc])]
        · rw [if_neg (fun h => hc ((hin x).mp h).2), hlk x hx]
          simp only [Bool.not_eq_true] at hc
          simp only [List.any_cons, hc, List.any_nil, Bool.or_false]
      · rcases List.mem_append.mp hq with hq | hq
        · exact hQy q hq z (List.mem_cons_of_mem _ hz)
        · rw [List.mem_singleton.mp hq]
          exact hpw.1 z hz
end RF
set_option Elab.async false
set_option linter.all false
set_option maxRecDepth 100000
set_option maxHeartbeats 4000000
/-! the plain law, whole -/
namespace RF
open PySem PySem.Spec L2 LamX NdefX
open PySem.W (dataLe dataLt alike alikeAll)

def lineE (p : Prog) : List Rem := lineM (everyM p)
def srtP (p : Prog) (wd : Str) (room : Int) : List Tri := (liveM p wd room).mergeSort (dataLe false (keyP (lineE p)))
def mktQ (p : Prog) (wd : Str) (room : Int) : List Tri := greedy cutsM (lastM (lineE p)) [] (srtP p wd room)
theorem lineE_mem {p : Prog} {x : Rem} : x ∈ lineE p ↔ x ∈ everyM p := List.mem_mergeSort
theorem srtP_mem {p : Prog} {wd : Str} {room : Int} {y : Tri} : y ∈ srtP p wd room ↔ y ∈ liveM p wd room := List.mem_mergeSort
theorem every_cut {p : Prog} {wd : Str} {room : Int} : ∀ y ∈ liveM p wd room, (everyM p).filter (fun x => cutsM x y) ≠ [] := fun y hy e => by
  have h := live_rem false (liveM_mem hy).1
  obtain ⟨h1, h2⟩ := last_cuts h
  rw [List.filter_eq_nil_iff] at e
  exact e _ (rems_iff.mp h1).1 h2
theorem srtP_rem {p : Prog} {wd : Str} {room : Int} : ∀ y ∈ srtP p wd room, (lineE p).filter (fun x => cutsM x y) ≠ [] := fun y hy e => by
  have h := every_cut y (srtP_mem.mp hy)
  rw [List.filter_eq_nil_iff] at e
  exact h (List.filter_eq_nil_iff.mpr fun x hx => e x (lineE_mem.mpr hx))
theorem lineE_nd (p : Prog) : (lineE p).Nodup := (List.mergeSort_perm (everyM p) (dataLe false ptD)).nodup_iff.mpr (every_nodup p)
theorem mkt_pw (p : Prog) (wd : Str) (room : Int) : (srtP p wd room).Pairwise fun q q' => ∀ x ∈ lineE p, cutsM x q = true → cutsM x q' = true → cutsM (lastM (lineE p) q) q' = true := by
  refine order_cut (line_asc (everyM p)) srtP_rem ?_
  refine (sorted_by (keyP (lineE p)) (liveM p wd room)).imp_of_mem fun {q q'} hq hq' h ht => ?_
  have a := last_cuts (srtP_rem q hq)
  have c := last_cuts (srtP_rem q' hq')
  exact line_ord (line_asc (everyM p)) a.1 c.1 (((cuts_pos _ _).mp a.2).1.trans (ht.trans ((cuts_pos _ _).mp c.2).1.symm)) (keyP_ord h)
theorem mkt_good (p : Prog) (wd : Str) (room : Int) : Good cutsM (lastM (lineE p)) (lineE p) (srtP p wd room) (mktQ p wd room) :=
  greedy_good (fun y hy => (last_cuts (srtP_rem y hy)).2) (mkt_pw p wd room)
theorem mkPaid_eq (p : Prog) (wd : Str) (room : Int) : mkPaid (everyM p) (liveM p wd room) = (mktQ p wd room).map (lastM (lineE p)) := by
  have := pay_greedy (line := lineE p) (lineE_nd p) (srtP p wd room) [] ((everyM p).map fun r => (r, (1 : Int))) (fun r hr => by
    rw [look_ones, if_pos (lineE_mem.mp hr)]
    rfl) srtP_rem (fun q hq => by cases hq) (fun x hx => by
    show (look _ x).getD 0 = _
    rw [look_ones, if_pos (lineE_mem.mp hx)]
    simp) (fun q hq => by cases hq) (mkt_pw p wd room)
  exact this
/-- nothing that is paid can be left out -/
theorem bought_all {pairs Q : List Tri} {rs paid : List Rem} (nd : paid.Nodup) (hr : ∀ x ∈ paid, x ∈ rs) (hQ : ∀ q ∈ Q, q ∈ pairs) (h1 : ∀ x ∈ rs, (Q.filter (cutsM x)).length ≤ 1) (hk : paid.length = Q.length) : boughtM paid pairs = paid := by
  have stay : ∀ r ∈ paid, buyStep pairs paid r = paid := fun r hr' => by
    unfold buyStep
    rw [if_neg]
    intro hc
    have hlt : (paid.filter fun x => !decide (x = r)).length < paid.length := List.length_filter_lt_length_iff_exists.mpr ⟨r, hr', by simp⟩
    have := cover_len cutsM (paid.filter fun x => !decide (x = r)) Q (fun q hq => by
      unfold coversM at hc
      exact List.any_eq_true.mp (List.all_eq_true.mp hc q (hQ q hq))) fun x hx => h1 x (hr x (List.mem_filter.mp hx).1)
    omega
  have key : ∀ ys : List Rem, (∀ r ∈ ys, r ∈ paid) → ys.foldl (buyStep pairs) paid = paid := fun ys => by
    induction ys with
    | nil => exact fun _ => rfl
    | cons y ys ih =>
      intro h
      rw [List.foldl_cons, stay y (h y List.mem_cons_self)]
      exact ih fun r hr => h r (List.mem_cons_of_mem _ hr)
  exact key _ fun r hr => List.mem_reverse.mp hr
def k2M (p : Prog) (wd : Str) (room : Int) (t : Nat) : Nat := ((mktQ p wd room).filter fun y => decide (y.1 = t)).length
theorem live_lt {p : Prog} {wd : Str} {room : Int} {y : Tri} (h : y ∈ liveM p wd room) : y.1 < p.length := by
  obtain ⟨i, j, hi, _⟩ := loose_mem (liveM_mem h).1
  obtain ⟨r, hr, _⟩ := insAt_row hi
  exact (List.getElem?_eq_some_iff.mp hr).1
theorem parts_all {L : List Tri} {n : Nat} (h : ∀ y ∈ L, y.1 < n) : L.length = sumTo (fun t => (L.filter fun y => decide (y.1 = t)).length) n := by
  rw [← len_parts (fun y : Tri => y.1) L n]
  congr 1
  exact (List.filter_eq_self.mpr fun y hy => by simpa using h y hy).symm
theorem kB_eq (p : Prog) (wd : Str) (room : Int) (b : Bool) (t : Nat) : kB p wd room b t = ((ftlQ p b wd room).filter fun y => decide (y.1 = t)).length := by
  unfold kB
  rw [ftl_eq]
  simp only
  rw [List.filter_map, List.length_map]
  congr 1
  refine List.filter_congr fun q hq => ?_
  have h := (last_cuts (srtF_rem (b := b) q ((ftl_good p b wd room).sub.subset hq))).2
  show decide ((lastM (remsM p b) q).2.1 = t) = _
  rw [((cuts_pos _ _).mp h).1]
theorem plain_law {p : Prog} {wd : Str} {room : Int} (hn : NearOk p) : PlainLaw p wd room (k2M p wd room) := by
  have hp := hn.prog
  have len6 : ∀ r ∈ p, r.length ≤ 6 := fun r hr => (hn.2 r hr).1
  have GM := mkt_good p wd room
  have hmq : ∀ q ∈ mktQ p wd room, q ∈ liveM p wd room := fun q hq => srtP_mem.mp (GM.sub.subset hq)
  have hml : ∀ y ∈ srtP p wd room, lastM (lineE p) y ∈ lineE p ∧ cutsM (lastM (lineE p) y) y = true := fun y hy => last_cuts (srtP_rem y hy)
  have paid := mkPaid_eq p wd room
  have paidIn : ∀ x ∈ mkPaid (everyM p) (liveM p wd room), x ∈ lineE p := fun x hx => by
    rw [paid] at hx
    obtain ⟨q, hq, rfl⟩ := List.mem_map.mp hx
    exact (hml q (GM.sub.subset hq)).1
  have paidLen : (mkPaid (everyM p) (liveM p wd room)).length = (mktQ p wd room).length := by rw [paid, List.length_map]
  have tot : (cheapM p wd room (everyM p)).length = (mktQ p wd room).length := by
    unfold cheapM
    rw [List.length_mergeSort, bought_all (Q := mktQ p wd room) (rs := lineE p) (by rw [paid]; exact GM.nd) paidIn hmq GM.one paidLen, paidLen]
  have sum2 : (mktQ p wd room).length = sumTo (k2M p wd room) p.length := parts_all fun y hy => live_lt (hmq y hy)
  refine ⟨fun t ht b d h => ?_, fun t ht d h => ?_, fun t b => ?_, every_cut, tot.trans sum2, fun b => ?_⟩
  · rw [kB_eq]
    refine thread_ans hp (ftl_good p b wd room) (fun y => srtF_mem) (fun y hy => last_cuts (srtF_rem y hy)) (pick_one len6 t [b]) (fun x => ?_) h
    unfold pickM
    rw [List.mem_filter, rems_iff]
    simp only [Bool.and_eq_true, decide_eq_true_eq, List.mem_singleton]
    constructor
    · rintro ⟨h1, h2, h3⟩
      exact ⟨⟨h1, h3⟩, h2⟩
    · rintro ⟨⟨h1, h3⟩, h2⟩
      exact ⟨h1, h2, h3⟩
  · refine thread_ans hp GM (fun y => srtP_mem) hml (pick_one len6 t [false, true]) (fun x => ?_) h
    unfold pickM
    rw [List.mem_filter, lineE_mem]
    have : x.1 ∈ [false, true] := by cases x.1 <;> simp
    simp only [Bool.and_eq_true, decide_eq_true_eq]
    exact ⟨fun ⟨h1, h2, _⟩ => ⟨h1, h2⟩, fun ⟨h1, h2⟩ => ⟨h1, h2, this⟩⟩
  · rw [kB_eq, ftl_eq]
    exact ((List.mergeSort_perm _ _).filter _).length_eq
  · rw [← sum2]
    have G := ftl_good p b wd room
    have e : sumTo (kB p wd room b) p.length = (ftlQ p b wd room).length := by
      rw [parts_all (L := ftlQ p b wd room) (n := p.length) fun y hy => live_lt (srtF_mem.mp (G.sub.subset hy))]
      congr 1
      funext t
      exact kB_eq p wd room b t
    rw [e]
    have := cover_len cutsM ((ftlQ p b wd room).map (lastM (remsM p b))) (mktQ p wd room) (fun q hq => by
      obtain ⟨z, hz, hc⟩ := G.cov q (srtF_mem.mpr (hmq q hq))
      exact ⟨_, List.mem_map.mpr ⟨z, hz, rfl⟩, hc⟩) fun x hx => by
      obtain ⟨z, hz, rfl⟩ := List.mem_map.mp hx
      exact GM.one _ (lineE_mem.mpr (rems_iff.mp (last_cuts (srtF_rem (b := b) z (G.sub.subset hz))).1).1)
    rw [List.length_map] at this
    exact this
theorem plain_ex : ∀ p wd room, NearOk p → IsBox wd room → ∃ k2, PlainLaw p wd room k2 := fun p wd room h _ => ⟨_, plain_law h⟩
end RF
set_option Elab.async false
set_option linter.all false
set_option maxRecDepth 100000
set_option maxHeartbeats 4000000
/-! a set of tuples of texts: the search, and putting one in -/
namespace RF
open PySem PySem.Spec L2 LamX NdefX
open PyProof.Rows hiding St

/-- the tuple at b holds the texts k -/
abbrev TxT (P : Program) (w : World) (h : Heap) (k : List Str) (b : Addr) : Prop := IsTupleKey (PySem.strKind P w) h k b
abbrev txH (P : Program) (w : World) (k : List Str) : Int := tupleKeyHash (PySem.strKind P w) k
abbrev TxL := List (Addr × List Str)
section
variable {P : Program} {w : World} {A : Around} {E : Value → Shared → Prop} {s : Shared} {k : List Str} {b : Addr}
theorem tx_items {vs : List Value} (h : ItemsAre (PySem.strKind P w) k vs) : ∀ v ∈ vs, ∃ x t, v = Value.str x t := by
  induction h with
  | nil => exact fun v h => nomatch h
  | cons h1 _ ih =>
    intro v hv
    cases hv with
    | head =>
      obtain ⟨t, e⟩ := Value.isStrOf_shape h1
      exact ⟨_, t, e⟩
    | tail _ hv => exact ih v hv
theorem cls_txt (n : Nat) (x : Str) (t : Tok) : ofAClassStatement n (.str x t) = pure false := by cases n <;> rfl
theorem hbv_txt (n : Nat) (x : Str) (t : Tok) : hashByValue n (.str x t) = pure false := by cases n <;> rfl
/-- a tuple of texts holds no object of a class statement -/
theorem tx_cls (hk : TxT P w s.heap k b) {Q : Bool → Shared → Prop} (q : Q false s) : wpAny (model P w) A (ofAClassStatement 8 (.ref b)) Q E s := by
  have ty := hk.typeIs
  obtain ⟨o, its, n, ho, _, hd, hi⟩ := hk
  unfold ofAClassStatement
  refine wpAny_bind (wpAny_typeOf ty ?_)
  dsimp only
  have same : (("tuple" : String) == "tuple") = true := rfl
  simp only [same, if_true, Bool.not_true, Bool.false_eq_true, if_false]
  try refine wpAny_bind (wpAny_pure ?_)
  try simp only [Bool.not_true, Bool.false_eq_true, if_false]
  show wpAny _ _ (seqItems? (.ref b) >>= _) _ _ s
  refine wpAny_bind (wpAny_seqItems ho hd ?_)
  refine wpAny_bind ?_
  show wpAny _ _ (forIn its _ _) _ _ s
  rw [← Array.forIn_toList]
  refine wpAny_forIn_list _ (fun left r z => (r.1 = none ∧ z = s) ∧ ∀ v ∈ left, ∃ x t, v = Value.str x t) _ (fun v left r z hz => ?_) (fun r z hz => ?_) _ _ ⟨⟨rfl, rfl⟩, tx_items hi⟩
  · obtain ⟨⟨_, rfl⟩, all⟩ := hz
    obtain ⟨x, t, rfl⟩ := all v (.head _)
    rw [cls_txt]
    refine wpAny_bind (wpAny_pure ?_)
    rw [if_neg Bool.false_ne_true]
    exact wpAny_pure ⟨⟨rfl, rfl⟩, fun u hu => all u (.tail _ hu)⟩
  · obtain ⟨⟨e, rfl⟩, _⟩ := hz
    obtain ⟨r1, r2⟩ := r
    cases e
    exact wpAny_pure q
/-- whether a tuple of texts is hashed by value is asked without a trace -/
theorem tx_hbv (hk : TxT P w s.heap k b) {Q : Bool → Shared → Prop} (q : ∀ c, Q c s) : wpAny (model P w) A (hashByValue 8 (.ref b)) Q E s := by
  have ty := hk.typeIs
  obtain ⟨o, its, n, ho, _, hd, hi⟩ := hk
  unfold hashByValue
  refine wpAny_bind (wpAny_specialOf ty F.slot_tuple_hash.lookup ?_)
  show wpAny _ _ (seqItems? (.ref b) >>= _) _ _ s
  refine wpAny_bind (wpAny_seqItems ho hd ?_)
  refine wpAny_bind ?_
  show wpAny _ _ (forIn its _ _) _ _ s
  rw [← Array.forIn_toList]
  refine wpAny_forIn_list _ (fun left r z => (r.1 = none ∧ z = s) ∧ ∀ v ∈ left, ∃ x t, v = Value.str x t) _ (fun v left r z hz => ?_) (fun r z hz => ?_) _ _ ⟨⟨rfl, rfl⟩, tx_items hi⟩
  · obtain ⟨⟨_, rfl⟩, all⟩ := hz
    obtain ⟨x, t, rfl⟩ := all v (.head _)
    rw [hbv_txt]
    refine wpAny_bind (wpAny_pure ?_)
    simp only [Bool.not_false, if_true]
    exact wpAny_pure (wpAny_pure (q _))
  · obtain ⟨⟨e, rfl⟩, _⟩ := hz
    obtain ⟨r1, r2⟩ := r
    cases e
    exact wpAny_pure (q _)
theorem tx_seen (hk : TxT P w s.heap k b) {ys : List Value} (hy : ∀ y ∈ ys, ∃ c m, y = Value.ref c ∧ TxT P w s.heap m c) {Q : Bool → Shared → Prop} (q : Q false s) : wpAny (model P w) A (searchCouldBeSeen (.ref b) ys) Q E s := by
  unfold searchCouldBeSeen
  refine wpAny_bind ?_
  refine wpAny_forIn_list _ (fun left r z => (r.1 = none ∧ z = s) ∧ ∀ y ∈ left, ∃ c m, y = Value.ref c ∧ TxT P w s.heap m c) _ (fun v left r z hz => ?_) (fun r z hz => ?_) _ _ ⟨⟨rfl, rfl⟩, hy⟩
  · obtain ⟨⟨_, rfl⟩, all⟩ := hz
    obtain ⟨c, m, rfl, hc⟩ := all v (.head _)
    have next : (none : Option Bool) = none ∧ z = z := ⟨rfl, rfl⟩
    dsimp only
    by_cases hv : (b == c || (carriedByValue (.ref b) && carriedByValue (.ref c))) = true
    · exact wp_if_pos hv (wpAny_pure ⟨⟨rfl, rfl⟩, fun u hu => all u (.tail _ hu)⟩)
    · refine wp_if_neg hv (wpAny_bind (wpAny_eqIsQuiet_tuple hk ?_))
      rw [if_neg (by decide)]
      refine wpAny_bind (wpAny_eqIsQuiet_tuple hc ?_)
      rw [if_neg (by decide)]
      refine wpAny_bind (tx_cls hk ?_)
      rw [if_neg (by decide)]
      refine wpAny_bind (tx_cls hc ?_)
      rw [if_neg (by decide)]
      exact wpAny_pure ⟨⟨rfl, rfl⟩, fun u hu => all u (.tail _ hu)⟩
  · obtain ⟨⟨e, rfl⟩, _⟩ := hz
    obtain ⟨r1, r2⟩ := r
    cases e
    exact wpAny_pure q
end
/-! ### the table -/
abbrev txRow (P : Program) (w : World) (L : TxL) : List (Int × Value) := L.map fun q => (txH P w q.2, Value.ref q.1)
abbrev txHs (P : Program) (w : World) (L : TxL) : List Int := L.map fun q => txH P w q.2
structure TxSet (P : Program) (w : World) (h : Heap) (a : Addr) (L : TxL) (es : Array (Int × Value)) (ep : Nat) (t : SetTable) : Prop where
  obj : ∃ o, h.get? a = some o ∧ o.ExactSet ∧ o.data = .set es ep t
  row : es.toList = txRow P w L
  tab : TabOk t (txHs P w L)
  dif : (L.map (·.2)).Nodup
  key : ∀ q ∈ L, TxT P w h q.2 q.1
  led : w.params.followText "set-order" = true ∨ t.led = true
  spc : L.length * 5 < t.mask * 3
  few : L.length < 64
section
variable {P : Program} {w : World} {A : Around} {E : Value → Shared → Prop} {s : Shared} {a : Addr} {L : TxL} {es : Array (Int × Value)} {ep : Nat} {t : SetTable}
theorem row_len (h : es.toList = txRow P w L) : es.size = L.length := by
  have := congrArg List.length h
  simpa using this
theorem TxSet.fit (R : TxSet P w s.heap a L es ep t) : t.fits es.size = true := by
  have h1 : t.place.size = L.length := by simpa using R.tab.sz
  have h2 := row_len R.row
  have h3 := R.spc
  unfold SetTable.fits SetTable.fill
  rw [R.tab.dm]
  have h4 : (#[] : Array Nat).size = 0 := rfl
  simp only [h4, Bool.and_eq_true, beq_iff_eq, decide_eq_true_eq]
  omega
theorem TxSet.at' (R : TxSet P w s.heap a L es ep t) {i : Nat} {q : Addr × List Str} (h : L[i]? = some q) : es[i]? = some (txH P w q.2, Value.ref q.1) := by
  have : es.toList[i]? = some (txH P w q.2, Value.ref q.1) := by rw [R.row, List.getElem?_map, h]; rfl
  rwa [Array.getElem?_toList] at this
theorem TxSet.stays (R : TxSet P w s.heap a L es ep t) : ¬ t.gaveWay = true := by
  have := mask_odd R.tab.mok
  unfold SetTable.gaveWay
  rw [this]
  decide
theorem TxSet.plc (R : TxSet P w s.heap a L es ep t) : t.place.toList.length = L.length := by
  have := R.tab.sz
  rw [List.length_map] at this
  rw [Array.length_toList, this]
/-- the probe at the c-th step -/
abbrev stepP (m : Nat) (h : Int) (c : Nat) : SetTable.Probe := nth m (runAt m (SetTable.bits h % (m + 1)) (SetTable.bits h)) c
theorem step_dum (m : Nat) (h : Int) (c : Nat) : (stepP m h c).dummy = none := by
  have gen : ∀ (n : Nat) (p : SetTable.Probe), p.dummy = none → (nth m p n).dummy = none := fun n => by
    induction n with
    | zero => exact fun p e => e
    | succ n ih =>
      refine fun p e => ih (adv m p) ?_
      unfold adv
      split <;> exact e
  exact gen c _ rfl
theorem step_add (m : Nat) (h : Int) (c d : Nat) : nth m (stepP m h c) d = stepP m h (c + d) := (nth_add m c _ d).symm
/-- the search from its c-th step: K is the first free place on the way of k -/
theorem tx_walk (R : TxSet P w s.heap a L es ep t) {x : Addr} {k : List Str} (hx : TxT P w s.heap k x) (hu : A.units < cLine) {K : Nat} (hf : K < 10 * SetTable.turns t.mask) (hK : way t.mask (txH P w k) K ∉ t.place.toList) (hbef : ∀ c, c < K → way t.mask (txH P w k) c ∈ t.place.toList)
    {Q : SetFound → Shared → Prop} (yes : k ∈ L.map (·.2) → Q (.there none) s) (no : k ∉ L.map (·.2) → Q (.free (way t.mask (txH P w k) K) false) s) :
    ∀ (fuel c : Nat) (st : Option SetTable.Probe), st.getD (t.probeStart (txH P w k)) = stepP t.mask (txH P w k) c → c ≤ K → K - c < fuel → (∀ (i : Nat) q, L[i]? = some q → q.2 = k → ∃ d, c ≤ d ∧ d < K ∧ t.place.toList[i]? = some (way t.mask (txH P w k) d)) →
      wpAny (model P w) A (setSearchFrom a (.ref x) (txH P w k) true fuel st) Q E s := by
  intro fuel
  induction fuel with
  | zero => exact fun c st _ _ h _ => absurd h (Nat.not_lt_zero _)
  | succ fuel ih =>
    intro c st hst hc hlt hpos
    obtain ⟨o, ho, _, hd⟩ := R.obj
    have jw : ∀ d, (nth t.mask (stepP t.mask (txH P w k) c) d).j = way t.mask (txH P w k) (c + d) := fun d => by rw [step_add]
    have hsh : ∀ (i : Nat) q, L[i]? = some q → (es[i]?.map (·.1)).getD 0 = txH P w q.2 := fun i q hq => by rw [R.at' hq]; rfl
    rw [setSearchFrom_succ]
    refine wpAny_bind (wpAny_setState_of ho hd R.fit ?_)
    refine wp_if_neg R.stays ?_
    try refine wpAny_bind (wpAny_pure ?_)
    rcases go_spec t R.tab.ris R.tab.dm (fun i => (es[i]?.map (·.1)).getD 0) (txH P w k) (10 * SetTable.turns t.mask) (K - c) (stepP t.mask (txH P w k) c) (step_dum _ _ _) (by omega) (fun d hd' => by rw [jw]; exact hbef _ (by omega)) (by rw [jw, show c + (K - c) = K by omega]; exact hK)
      with ⟨d, i, hdK, hi, hh, before, hp⟩ | ⟨before, hp⟩
    · -- an entry of the same hash
      have hp' : t.probe (fun i => (es[i]?.map (·.1)).getD 0) (txH P w k) (st.getD (t.probeStart (txH P w k))) = some (.candidate (way t.mask (txH P w k) (c + d)) i (stepP t.mask (txH P w k) (c + (d + 1)))) := by
        rw [hst, ← jw, ← step_add]
        exact hp
      rw [jw] at hi
      have hiL : i < L.length := by
        rw [← R.plc]
        exact (List.getElem?_eq_some_iff.mp hi).1
      obtain ⟨q, hq⟩ : ∃ q, L[i]? = some q := ⟨_, List.getElem?_eq_getElem hiL⟩
      have hqL : q ∈ L := List.mem_of_getElem? hq
      have live : t.slot (way t.mask (txH P w k) (c + d)) = .live i := slot_live R.tab.ris hi
      have tail : wpAny (model P w) A (searchRest a (.ref x) (txH P w k) true fuel es t (way t.mask (txH P w k) (c + d)) i (stepP t.mask (txH P w k) (c + (d + 1)))) Q E s := by
        unfold searchRest
        rw [R.at' hq]
        refine wpAny_bind (wpAny_holding (wpAny_eqBool_tuple hu (R.key q hqL) hx ?_))
        refine wpAny_bind (wpAny_setState_of ho hd R.fit ?_)
        by_cases same : q.2 = k
        · exact wp_if_pos (by simp [same]) (wpAny_pure (yes (List.mem_map.mpr ⟨q, hqL, same⟩)))
        · refine wp_if_neg (by simp [same]) ?_
          try refine wpAny_bind (wpAny_pure ?_)
          rw [sameMem]
          dsimp only
          simp only [if_true, live, R.at' hq]
          refine wpAny_bind (wpAny_isSame_ref_self (wpAny_bind (wpAny_pure ?_)))
          simp only [if_true]
          refine wp_if_neg (by simp [same]) ?_
          refine ih (c + (d + 1)) _ rfl (by omega) (by omega) fun i2 q2 h2 e2 => ?_
          obtain ⟨d2, g1, g2, g3⟩ := hpos i2 q2 h2 e2
          refine ⟨d2, ?_, g2, g3⟩
          rcases Nat.lt_trichotomy d2 (c + d) with z | z | z
          · exfalso
            have hb := before (d2 - c) i2 (by omega) (by rw [jw, show c + (d2 - c) = d2 by omega]; exact g3)
            exact hb ((hsh i2 q2 h2).trans (by rw [e2]))
          · exfalso
            rw [z] at g3
            have l2 := slot_live R.tab.ris g3
            rw [live] at l2
            cases l2
            rw [hq] at h2
            cases h2
            exact same e2
          · omega
      rw [hp']
      dsimp only
      by_cases hl : t.led = true
      · refine wp_if_neg (by simp [hl]) ?_
        try refine wpAny_bind (wpAny_pure ?_)
        exact tail
      · refine wp_if_pos (by simp [hl]) (wpAny_bind (tx_seen hx (fun y hy => ?_) ?_))
        · obtain ⟨e, he, rfl⟩ := List.mem_map.mp hy
          have he' : e ∈ es.toList := by
            rw [Array.mem_toList_iff] at he
            rw [Array.mem_toList_iff]
            exact (Array.mem_filter.mp he).1
          rw [R.row] at he'
          obtain ⟨q2, hq2, rfl⟩ := List.mem_map.mp he'
          exact ⟨q2.1, q2.2, rfl, R.key q2 hq2⟩
        · refine wp_if_neg (by decide) ?_
          try refine wpAny_bind (wpAny_pure ?_)
          exact tail
    · -- a free place
      have hp' : t.probe (fun i => (es[i]?.map (·.1)).getD 0) (txH P w k) (st.getD (t.probeStart (txH P w k))) = some (.empty (way t.mask (txH P w k) K) none) := by
        have e : (nth t.mask (stepP t.mask (txH P w k) c) (K - c)).j = way t.mask (txH P w k) K := by rw [jw, show c + (K - c) = K by omega]
        rw [hst, ← e]
        exact hp
      rw [hp']
      refine wpAny_pure (no fun hm => ?_)
      obtain ⟨q2, hq2, e2⟩ := List.mem_map.mp hm
      obtain ⟨i2, h2⟩ := List.mem_iff_getElem?.mp hq2
      obtain ⟨d2, g1, g2, g3⟩ := hpos i2 q2 h2 e2
      exact before (d2 - c) i2 (by omega) (by rw [jw, show c + (d2 - c) = d2 by omega]; exact g3) ((hsh i2 q2 h2).trans (by rw [e2]))
theorem tx_find (R : TxSet P w s.heap a L es ep t) {x : Addr} {k : List Str} (hx : TxT P w s.heap k x) (hu : A.units < cLine) {Q : SetFound → Shared → Prop} (yes : k ∈ L.map (·.2) → Q (.there none) s)
    (no : ∀ K, k ∉ L.map (·.2) → way t.mask (txH P w k) K ∉ t.place.toList → (∀ c, c < K → way t.mask (txH P w k) c ∈ t.place.toList) → Q (.free (way t.mask (txH P w k) K) false) s) :
    wpAny (model P w) A (setSearch a (.ref x) (txH P w k) true) Q E s := by
  obtain ⟨K, h1, h2, h3⟩ := R.tab.first (by have := R.spc; rw [List.length_map]; omega) (txH P w k)
  have small : 10 * SetTable.turns t.mask ≤ 1420 := by
    unfold SetTable.turns
    rcases R.tab.mok with e | e | e <;> omega
  unfold setSearch
  refine tx_walk R hx hu h1 h2 h3 yes (fun hn => no K hn h2 h3) 100000 0 none rfl (Nat.zero_le _) (by omega) fun i q hq e => ?_
  have hh : (txHs P w L)[i]? = some (txH P w k) := by rw [List.getElem?_map, hq, ← e]; rfl
  have hi : i < t.place.toList.length := by
    rw [R.plc]
    exact (List.getElem?_eq_some_iff.mp hq).1
  obtain ⟨d, g1, g2⟩ := R.tab.before h2 hh (List.getElem?_eq_getElem hi)
  exact ⟨d, Nat.zero_le _, g1, by rw [List.getElem?_eq_getElem hi, g2]⟩
end
end RF
set_option Elab.async false
set_option linter.all false
set_option maxRecDepth 100000
set_option maxHeartbeats 4000000
/-! a set of tuples of texts: laid anew, put in, set(t) -/
namespace RF
open PySem PySem.Spec L2 LamX NdefX
open PyProof.Rows hiding St

section
variable {P : Program} {w : World} {A : Around} {E : Value → Shared → Prop} {s : Shared} {a : Addr} {L : TxL} {es : Array (Int × Value)} {ep : Nat} {t : SetTable}
/-- the set changes, the tuples stay -/
theorem tx_off {h h' : Heap} {k : List Str} {b : Addr} {o : Obj} (x : TxT P w h k b) (ho : h.get? a = some o) (hd : o.data = .set es ep t) (hs : Heap.SameBut a h h') : TxT P w h' k b := by
  obtain ⟨u, its, n, hu, hc, hdu, hi⟩ := x
  refine ⟨u, its, n, ?_, hc, hdu, hi⟩
  rw [hs.2 b, hu]
  rintro rfl
  rw [ho] at hu
  cases hu
  rw [hd] at hdu
  cases hdu
theorem tx_up {h h' : Heap} {k : List Str} {b : Addr} (x : TxT P w h k b) (up : ∀ c o, h.get? c = some o → h'.get? c = some o) : TxT P w h' k b := by
  obtain ⟨u, its, n, hu, r⟩ := x
  exact ⟨u, its, n, up b u hu, r⟩
/-- rows in another order -/
theorem row_order (L : TxL) (es : Array (Int × Value)) (ord : Array Nat) (hr : es.toList = txRow P w L) (hp : ord.toList.Perm (List.range L.length)) :
    ∃ M : TxL, (ord.filterMap (es[·]?)).toList = txRow P w M ∧ M.Perm L ∧ txHs P w M = ord.toList.map fun i => (es.map (·.1)).getD i 0 := by
  have at' : ∀ i : Nat, es[i]? = L[i]?.map fun (q : Addr × List Str) => (txH P w q.2, Value.ref q.1) := fun i => by
    rw [← Array.getElem?_toList, hr, List.getElem?_map]
  refine ⟨ord.toList.filterMap fun i => L[i]?, ?_, ?_, ?_⟩
  · rw [Array.toList_filterMap]
    show (ord.toList.filterMap fun i => es[i]?) = _
    rw [show txRow P w (ord.toList.filterMap fun i => L[i]?) = (ord.toList.filterMap fun i => L[i]?).map fun q => (txH P w q.2, Value.ref q.1) from rfl, List.map_filterMap]
    congr 1
    funext i
    exact at' i
  · have e : (List.range L.length).filterMap (fun i => L[i]?) = L := by
      refine List.ext_getElem? fun i => ?_
      have gen : ∀ (n : Nat), n ≤ L.length → (List.range n).filterMap (fun i => L[i]?) = L.take n := fun n => by
        induction n with
        | zero => exact fun _ => rfl
        | succ n ih =>
          intro h
          rw [List.range_succ, List.filterMap_append, ih (by omega), List.filterMap_cons_some (List.getElem?_eq_getElem h), List.filterMap_nil, List.take_succ, List.getElem?_eq_getElem h]
          rfl
      rw [gen _ (Nat.le_refl _), List.take_length]
    exact (hp.filterMap _).trans (by rw [e])
  · have lt : ∀ i ∈ ord.toList, i < L.length := fun i hi => List.mem_range.mp (hp.mem_iff.mp hi)
    generalize ord.toList = l at lt
    induction l with
    | nil => rfl
    | cons i l ih =>
      have hi := lt i List.mem_cons_self
      have ih' := ih fun j hj => lt j (List.mem_cons_of_mem _ hj)
      rw [List.filterMap_cons_some (List.getElem?_eq_getElem hi), List.map_cons]
      show txH P w L[i].2 :: txHs P w (l.filterMap fun i => L[i]?) = _
      rw [ih']
      congr 1
      have e := at' i
      rw [List.getElem?_eq_getElem hi] at e
      have e2 : (es.map (·.1))[i]? = some (txH P w L[i].2) := by rw [Array.getElem?_map, e]; rfl
      rw [Array.getD_eq_getD_getElem?, e2]
      rfl
theorem tx_relay {o : Obj} (ho : s.heap.get? a = some o) (hex : o.ExactSet) (hd : o.data = .set es ep t) (hr : es.toList = txRow P w L) (hsz : t.place.size = es.size) (hdm : t.dummies = #[]) (hfl : es.size ≤ t.mask) (dif : (L.map (·.2)).Nodup) (key : ∀ q ∈ L, TxT P w s.heap q.2 q.1)
    (led : w.params.followText "set-order" = true ∨ t.led = true) (few : L.length < 64) {wanted M : Nat} (hw : SetTable.sizeAbove wanted - 1 = M) (hM : MaskOk M) (hw2 : SetTable.sizeAbove wanted ≤ 128) (spc : L.length * 5 < M * 3) {Q : Unit → Shared → Prop}
    (q : ∀ h' L' es' ep' t', Heap.SameBut a s.heap h' → TxSet P w h' a L' es' ep' t' → L'.Perm L → Q () { s with heap := h' }) : wpAny (model P w) A (setRelay a wanted) Q E s := by
  have hl := row_len hr
  have fit : t.fits es.size = true := by
    unfold SetTable.fits SetTable.fill
    have h4 : (#[] : Array Nat).size = 0 := rfl
    simp only [hdm, h4, Bool.and_eq_true, beq_iff_eq, decide_eq_true_eq]
    omega
  obtain ⟨t', ord, e, hp, T, em, el, _, _⟩ := relaid_ok t (hs := es.map (·.1)) (wanted := wanted) hw hM (by rw [Array.size_map, hl]; omega)
  rw [Array.size_map, hl] at hp
  obtain ⟨L', r1, r2, r3⟩ := row_order L es ord hr hp
  rw [← r3] at T
  have hl' := row_len r1
  rw [r2.length_eq, ← hl] at hl'
  rw [setRelay_eq]
  refine wpAny_bind (wpAny_setState_of ho hd fit ?_)
  refine wp_if_neg (by rw [sizeLine_eq]; omega) ?_
  try refine wpAny_bind (wpAny_pure ?_)
  rw [e]
  dsimp only
  refine wpAny_bind (wp_if_neg (by rw [hl']; simp) ?_)
  try refine wpAny_bind (wpAny_pure ?_)
  refine wpAny_pure (wpAny_storeSet_of ho hd ?_ (by rw [hl', hl, sizeLine_eq]; omega))
  have sb : Heap.SameBut a s.heap (s.heap.update a (Obj.putSet (ord.filterMap (es[·]?)) t')) := Heap.SameBut.update ..
  refine q _ L' _ _ t' sb ⟨⟨_, store_at ho hd, ⟨hex.1, hex.2.1, hex.2.2⟩, rfl⟩, r1, T, (r2.map (·.2)).nodup_iff.mpr dif, fun z hz => tx_off (key z (r2.mem_iff.mp hz)) ho hd sb, by rw [el]; exact led, ?_, by rw [r2.length_eq]; exact few⟩ r2
  rw [r2.length_eq, em]
  exact spc
/-- a table that is no longer plain -/
theorem tab_dim {t : SetTable} {hs : List Int} (T : TabOk t hs) (c : Bool) : TabOk (if c = true then t else { t with plain := false }) hs := by
  cases c with
  | true => exact T
  | false => exact ⟨T.ris, T.dm, T.sz, T.mok, T.bd, T.reach⟩
theorem tx_add (R : TxSet P w s.heap a L es ep t) {x : Addr} {k : List Str} (hx : TxT P w s.heap k x) (hu : A.units < cLine) (hfew : L.length + 1 < 64) {Q : Bool → Shared → Prop}
    (q : ∀ c h' L' es' ep' t', Heap.SameBut a s.heap h' → TxSet P w h' a L' es' ep' t' → (L' = L ∧ k ∈ L.map (·.2) ∨ L'.Perm ((x, k) :: L)) → Q c { s with heap := h' }) : wpAny (model P w) A (setAddHashed a (.ref x) (txH P w k)) Q E s := by
  obtain ⟨o, ho, hex, hd⟩ := R.obj
  have hl := row_len R.row
  have spc := R.spc
  unfold setAddHashed
  refine wpAny_holding ?_
  rw [show (100000 : Nat) = 99999 + 1 from rfl, setAddHashedIn_succ]
  refine wpAny_bind (wpAny_setState_of ho hd R.fit ?_)
  refine wp_if_neg (by simp [byScan, Value.scannable]) ?_
  try refine wpAny_bind (wpAny_pure ?_)
  refine wpAny_bind (tx_find R hx hu (fun hm => ?_) fun K hm hK hb => ?_)
  · exact wpAny_pure (q false s.heap L es ep t (.refl a s.heap) R (.inl ⟨rfl, hm⟩))
  dsimp only
  refine wpAny_bind (wpAny_setState_of ho hd R.fit ?_)
  dsimp only
  obtain ⟨q1, q2, q3, q4, q5, _, _, _, q9⟩ := R.tab.put hK hb
  generalize t.put (way t.mask (txH P w k) K) = pt at q1 q3 q4 q5 q9 ⊢
  obtain ⟨t1, p⟩ := pt
  dsimp only at q1 q3 q4 q5 q9 ⊢
  -- by value or not
  have cont : ∀ c : Bool, wpAny (model P w) A (do
      storeSet a (SetTable.insertAt es p (txH P w k, Value.ref x)) (if c = true then t1 else { t1 with plain := false })
      if !false && (if c = true then t1 else { t1 with plain := false }).tooFull then setRelay a (SetTable.grown (es.size + 1))
      return true) Q E s := fun c => by
    have T2 := tab_dim q3 c
    have e4 : (if c = true then t1 else { t1 with plain := false }).mask = t.mask := by cases c <;> exact q4
    have e5 : (if c = true then t1 else { t1 with plain := false }).led = t.led := by cases c <;> exact q5
    have e9 : (if c = true then t1 else { t1 with plain := false }).fill = L.length + 1 := by
      rw [List.length_map] at q9
      cases c <;> exact q9
    generalize (if c = true then t1 else { t1 with plain := false }) = t2 at T2 e4 e5 e9
    subst q1
    generalize SetTable.below t.place (way t.mask (txH P w k) K) = p at q2 T2
    have ein : (SetTable.insertAt es p (txH P w k, Value.ref x)).toList = txRow P w (L.take p ++ (x, k) :: L.drop p) := by
      rw [SetTable.toList_insertAt, R.row]
      unfold txRow
      rw [List.map_append, List.map_cons, List.map_take, List.map_drop]
    have ehs : txHs P w (L.take p ++ (x, k) :: L.drop p) = (txHs P w L).take p ++ txH P w k :: (txHs P w L).drop p := by
      unfold txHs
      rw [List.map_append, List.map_cons, List.map_take, List.map_drop]
    rw [← ehs] at T2
    have pm := put_perm L p (x, k)
    generalize L.take p ++ (x, k) :: L.drop p = L1 at pm ein T2
    have el : L1.length = L.length + 1 := pm.length_eq
    have dif : (L1.map (·.2)).Nodup := (pm.map (·.2)).nodup_iff.mpr (List.nodup_cons.mpr ⟨hm, R.dif⟩)
    have esz := row_len ein
    generalize SetTable.insertAt es p (txH P w k, Value.ref x) = es1 at ein esz ⊢
    refine wpAny_bind (wpAny_storeSet_of ho hd ?_ (by rw [esz, el, sizeLine_eq]; omega))
    have sb : Heap.SameBut a s.heap (s.heap.update a (Obj.putSet es1 t2)) := Heap.SameBut.update ..
    have ho1 := store_at (es' := es1) (t' := t2) ho hd
    generalize s.heap.update a (Obj.putSet es1 t2) = h1 at sb ho1 ⊢
    have key : ∀ z ∈ L1, TxT P w h1 z.2 z.1 := fun z hz => by
      rcases List.mem_cons.mp (pm.mem_iff.mp hz) with rfl | hz
      · exact tx_off hx ho hd sb
      · exact tx_off (R.key z hz) ho hd sb
    have led : w.params.followText "set-order" = true ∨ t2.led = true := by
      rw [e5]
      exact R.led
    by_cases full : t2.tooFull = true
    · have hfull : (L.length + 1) * 5 ≥ t.mask * 3 := by
        have h := full
        unfold SetTable.tooFull at h
        rwa [decide_eq_true_eq, e9, e4] at h
      have big : ∃ M, SetTable.sizeAbove (SetTable.grown (es.size + 1)) - 1 = M ∧ MaskOk M ∧ SetTable.sizeAbove (SetTable.grown (es.size + 1)) ≤ 128 ∧ (L.length + 1) * 5 < M * 3 ∧ es1.size ≤ t2.mask := by
        rw [hl, esz, el, e4]
        rcases R.tab.mok with m | m | m
        · have : L.length = 4 := by rw [m] at hfull spc; omega
          rw [this, size_20, m]
          exact ⟨31, rfl, .inr (.inl rfl), by decide, by decide, by decide⟩
        · have : L.length = 18 := by rw [m] at hfull spc; omega
          rw [this, size_76, m]
          exact ⟨127, rfl, .inr (.inr rfl), by decide, by decide, by decide⟩
        · rw [m] at hfull
          omega
      obtain ⟨M, b1, b2, b3, b4, b5⟩ := big
      have go : wpAny (model P w) A (setRelay a (SetTable.grown (es.size + 1))) (fun _ s' => wpAny (model P w) A (pure true) Q E s') E { s with heap := h1 } :=
        tx_relay (s := { s with heap := h1 }) (ep := ep + 1) ho1 ⟨hex.1, hex.2.1, hex.2.2⟩ rfl ein (by rw [esz]; exact T2.sz.trans (by rw [List.length_map])) T2.dm b5 dif key led (by rw [el]; exact hfew) b1 b2 b3 (by rw [el]; exact b4)
          fun h2 L2 es2 ep2 t3 sb2 R2 pm2 => wpAny_pure (q true h2 L2 es2 ep2 t3 (sb.trans sb2) R2 (.inr (pm2.trans pm)))
      first
        | exact wpAny_bind (wp_if_pos (by simp [full]) go)
        | exact wp_if_pos (by simp [full]) (wpAny_bind go)
    · have done : wpAny (model P w) A (pure true) Q E { s with heap := h1 } := by
        refine wpAny_pure (q true h1 L1 es1 (ep + 1) t2 sb ⟨⟨_, ho1, ⟨hex.1, hex.2.1, hex.2.2⟩, rfl⟩, ein, T2, dif, key, led, ?_, by rw [el]; exact hfew⟩ (.inr pm))
        have h := full
        unfold SetTable.tooFull at h
        rw [decide_eq_true_eq, e9] at h
        rw [el]
        omega
      first
        | exact wp_if_neg (by simp [full]) done
        | exact wpAny_bind (wp_if_neg (by simp [full]) (wpAny_pure done))
  by_cases hpl : t1.plain = true
  · first
      | exact wpAny_bind (wp_if_pos hpl (tx_hbv hx fun c => cont c))
      | exact wp_if_pos hpl (wpAny_bind (tx_hbv hx fun c => cont c))
  · first
      | exact wpAny_bind (wp_if_neg hpl (wpAny_pure (cont true)))
      | exact wp_if_neg hpl (cont true)
      | exact wp_if_neg hpl (wpAny_bind (wpAny_pure (cont true)))
end
end RF
set_option Elab.async false
set_option linter.all false
set_option maxRecDepth 100000
set_option maxHeartbeats 4000000
/-! set(t), t a tuple of tuples of texts -/
namespace RF
open PySem PySem.Spec L2 LamX NdefX
open PyProof.Rows hiding St

/-- what is in the set behind i items -/
structure Gt (ks : TxL) (i : Nat) (L : TxL) : Prop where
  sub : ∀ q ∈ L, q ∈ ks
  all : ∀ j q, j < i → ks[j]? = some q → q.2 ∈ L.map (·.2)
  len : L.length ≤ i
theorem Gt.nil (ks : TxL) : Gt ks 0 [] := ⟨fun q h => (nomatch h), fun j q h => absurd h (Nat.not_lt_zero _), Nat.le_refl _⟩
theorem Gt.next {ks L L' : TxL} {i : Nat} {x : Addr × List Str} (g : Gt ks i L) (hx : ks[i]? = some x) (h : L' = L ∧ x.2 ∈ L.map (·.2) ∨ L'.Perm (x :: L)) : Gt ks (i + 1) L' := by
  rcases h with ⟨rfl, hm⟩ | pm
  · refine ⟨g.sub, fun j q hj hq => ?_, Nat.le_succ_of_le g.len⟩
    rcases Nat.lt_succ_iff_lt_or_eq.mp hj with hj | rfl
    · exact g.all j q hj hq
    · rw [hx] at hq
      cases hq
      exact hm
  · refine ⟨fun q hq => ?_, fun j q hj hq => ?_, by rw [pm.length_eq, List.length_cons]; exact Nat.succ_le_succ g.len⟩
    · rcases List.mem_cons.mp (pm.mem_iff.mp hq) with rfl | hq
      · exact List.mem_of_getElem? hx
      · exact g.sub q hq
    · rw [(pm.map (·.2)).mem_iff, List.map_cons]
      rcases Nat.lt_succ_iff_lt_or_eq.mp hj with hj | rfl
      · exact .tail _ (g.all j q hj hq)
      · rw [hx] at hq
        cases hq
        exact .head _
section
variable {P : Program} {w : World} {A : Around} {E : Value → Shared → Prop} {s : Shared}
theorem TxSet.up {h h' : Heap} {a : Addr} {L : TxL} {es : Array (Int × Value)} {ep : Nat} {t : SetTable} (R : TxSet P w h a L es ep t) (ha : ∀ o, h.get? a = some o → h'.get? a = some o) (key : ∀ q ∈ L, TxT P w h' q.2 q.1) : TxSet P w h' a L es ep t := by
  obtain ⟨o, ho, r⟩ := R.obj
  exact ⟨⟨o, ha o ho, r⟩, R.row, R.tab, R.dif, key, R.led, R.spc, R.few⟩
abbrev freshS (w : World) : Obj := { cls := .type "set", dict := none, data := .set #[] 0 (.fresh 0 0 (!w.params.followText "set-order")) }
theorem tx_fresh {h : Heap} {a : Addr} (ho : h.get? a = some (freshS w)) : TxSet P w h a [] #[] 0 (.fresh 0 0 (!w.params.followText "set-order")) := by
  refine ⟨⟨_, ho, ⟨rfl, rfl, rfl⟩, rfl⟩, rfl, ⟨.nil, rfl, rfl, .inl rfl, fun x h => (nomatch h), fun i h j hi => (nomatch hi)⟩, .nil, fun q h => (nomatch h), ?_, by show 0 * 5 < 7 * 3; decide, by show 0 < 64; decide⟩
  show _ ∨ (!w.params.followText "set-order") = true
  cases w.params.followText "set-order" <;> simp
theorem tx_loop {I : Addr} {fp wr : List Addr} {G : Array GenState → Array GenState → Prop} {n : Nat} {Pv : Nat → Value → Prop} {St : Nat → Shared → Prop} {R : Result → Shared → Prop} (W : WalksS P w A.in1 I fp wr G n Pv St) (S : Addr) (hSf : S ∉ fp) (ks : TxL) (hn : n = ks.length) (few : ks.length < 64)
    (val : ∀ i v, Pv i v → ∃ q, ks[i]? = some q ∧ v = .ref q.1) (h0 : Heap) (key : ∀ q ∈ ks, TxT P w h0 q.2 q.1) (hS0 : h0.get? S = none) (hw0 : ∀ b ∈ wr, h0.get? b = none) (hu : A.in1.units < cLine) :
    ∀ (m i : Nat) (s : Shared), n - i = m → i ≤ n → St i s → (∀ b o, h0.get? b = some o → s.heap.get? b = some o) → (∃ L es ep t, TxSet P w s.heap S L es ep t ∧ Gt ks i L) →
      (∀ s' L es ep t, Moved (S :: wr) G s s' → TxSet P w s'.heap S L es ep t → Gt ks n L → (∀ b o, h0.get? b = some o → s'.heap.get? b = some o) → R (.ok (.ret .none)) s') → codeAny (model P w) A (.builtin "set.update.loop" ⟨[.ref S, .ref I], []⟩) R s := by
  have hSw : S ∉ wr := fun h => hSf (W.sub _ h)
  have wide : ∀ b ∈ wr, b ∈ S :: wr := fun b hb => .tail _ hb
  have move : ∀ {s s' : Shared}, Moved wr G s s' → (∀ b o, h0.get? b = some o → s.heap.get? b = some o) → ∀ b o, h0.get? b = some o → s'.heap.get? b = some o := fun mv up b o e =>
    mv.heap b o (fun hb => by rw [hw0 b hb] at e; cases e) (up b o e)
  intro m
  induction m with
  | zero =>
    intro i s hm hi hst up ⟨L, es, ep, t, hS, g⟩ fin
    obtain rfl : i = n := by omega
    refine codeAny_builtin F.entry_set_update_loop ?_
    rw [Around.under_plainId F.plain_set_update_loop _]
    show wpAny _ A.in1 (pyNext (.ref I) >>= _) _ _ s
    refine wpAny_bind (W.done s _ _ hst fun s' mv => ?_)
    show wpAny _ A.in1 (ret Value.none) _ _ s'
    have up' := move mv up
    exact wpAny_pure (fin s' L es ep t (mv.mono wide) (hS.up (fun o e => mv.heap S o hSw e) fun q hq => tx_up (key q (g.sub q hq)) up') g up')
  | succ m ih =>
    intro i s hm hi hst up ⟨L, es, ep, t, hS, g⟩ fin
    have hlt : i < n := by omega
    refine codeAny_builtin F.entry_set_update_loop ?_
    rw [Around.under_plainId F.plain_set_update_loop _]
    show wpAny _ A.in1 (pyNext (.ref I) >>= _) _ _ s
    refine wpAny_bind (W.item i s _ _ hlt hst fun v s' hv hst' mv => ?_)
    obtain ⟨q, hq, rfl⟩ := val i v hv
    have up' := move mv up
    have hS' : TxSet P w s'.heap S L es ep t := hS.up (fun o e => mv.heap S o hSw e) fun z hz => tx_up (key z (g.sub z hz)) up'
    have hx : TxT P w s'.heap q.2 q.1 := tx_up (key q (List.mem_of_getElem? hq)) up'
    show wpAny _ A.in1 (holding [Value.ref q.1] (setAdd S (.ref q.1)) >>= _) _ _ s'
    refine wpAny_bind (wpAny_holding ?_)
    unfold setAdd
    refine wpAny_holding (wpAny_bind (wpAny_pyHash_tuple hu hx ?_))
    refine tx_add (s := { s' with toks := s'.toks + (q.2.length + 1) }) hS' hx hu (by have := g.len; omega) fun c h' L' es' ep' t' sb hS2 hor => ?_
    have up2 : ∀ b o, h0.get? b = some o → h'.get? b = some o := fun b o e => (sb.2 b (fun z => by rw [z, hS0] at e; cases e)).trans (up' b o e)
    refine wpAny_pure ⟨plainId_quiet F.plain_set_update_loop _, ih (i + 1) _ (by omega) hlt (W.frame _ s' _ _ hst' (Nat.le_add_right _ _) fun b hb o e => ?_) up2 ⟨L', es', ep', t', hS2, g.next hq hor⟩ fun s2 L2 es2 ep2 t2 mv2 r1 r2 r3 => ?_⟩
    · exact (sb.2 b fun z => hSf (z ▸ hb)).trans e
    · refine fin s2 L2 es2 ep2 t2 (Moved.trans W.gtrans ((mv.mono wide).then_heap (Nat.le_add_right _ _) fun b o hb e => ?_) mv2) r1 r2 r3
      exact (sb.2 b fun z => hb (by rw [z]; exact .head _)).trans e
set_option maxHeartbeats 8000000 in
/-- set(t) -/
theorem tx_call {l : Addr} {items : Array Value} (ks : TxL) {Q : Value → Shared → Prop} (hh : A.handled = none) (hl : s.heap.IsTuple l items) (hit : items.toList = ks.map fun q => Value.ref q.1) (key : ∀ q ∈ ks, TxT P w s.heap q.2 q.1) (few : ks.length < 64) (hu : A.units + 3 < cLine)
    (q : ∀ (h' : Heap) (tk : Nat) L es ep t, TxSet P w h' s.heap.objs.size L es ep t → Gt ks ks.length L → (∀ b o, s.heap.get? b = some o → h'.get? b = some o) → Q (.ref s.heap.objs.size) { s with heap := h', toks := tk }) :
    wpAny (model P w) A (call (.type "set") [.ref l]) Q E s := by
  have size : items.size = ks.length := by
    have := congrArg List.length hit
    simpa using this
  obtain ⟨_, _, hmro⟩ := F.called_set.mro
  have hmade := F.called_set.made
  have hsub := F.called_set.sub
  refine wpAny_call (codeAny_of_tree ?_)
  show wpAny _ _ (callAny (.type "set") _) _ _ _
  refine wpAny_pure ⟨Code.quiet_builtin _ (by decide +kernel), codeAny_builtin F.entry_type_call ?_⟩
  rw [Around.under_plain (weight_type_call_type "set" [.ref l] []) rfl]
  have h1 := F.called_set.notType
  have h2 := F.called_set.canCreate
  have hct := F.typeCall_set_1 (.ref l)
  repeat (any_goals (first | assumption | wp_step))
  refine codeAny_mono (code_set_led1 (.ref l) (E := E) (Q₁ := fun obj z => obj = .ref s.heap.objs.size ∧ z = { s with heap := s.heap.push (freshS w) }) ⟨rfl, rfl⟩) fun r z hr => ?_
  cases r with
  | error e => exact hr
  | ok fl =>
    cases fl with
    | ret obj =>
      obtain ⟨rfl, rfl⟩ := hr
      have hS : (s.heap.push (freshS w)).get? s.heap.objs.size = some (freshS w) := Heap.get?_push_size _ rfl
      have hT : Shared.TypeIs { s with heap := s.heap.push (freshS w) } (.ref s.heap.objs.size) "set" := ⟨_, hS, rfl⟩
      have hli := F.called_set.init.lookup
      have hbi := F.called_set.init.bind (.ref s.heap.objs.size)
      repeat (any_goals (first | assumption | wp_step))
      refine codeAny_mono (codeAny_call_builtin (R := wants (fun r z => r = .none ∧ ∃ h' tk L es ep t, z = { s with heap := h', toks := tk } ∧ TxSet P w h' s.heap.objs.size L es ep t ∧ Gt ks ks.length L ∧ (∀ b o, s.heap.get? b = some o → h'.get? b = some o)) E) F.called_set.init.plain F.entry_set_init (check_set_init_1 hT ?_)) fun r2 z2 hr2 => ?_
      · obtain ⟨ol, hol, hcl, nl, hdl⟩ := hl
        obtain ⟨oc, odict, odata, oslots⟩ := ol
        simp only at hcl hdl
        subst hcl hdl
        have hol' : (s.heap.push (freshS w)).get? l = some { cls := .type "tuple", dict := odict, data := .seq items nl, slots := oslots } := Heap.get?_push_of_some _ hol
        have g1 := PySem.F.sub_tuple_set
        have g2 := PySem.F.sub_tuple_frozenset
        have g3 : (Value.type "tuple" == Value.type "dict") = false := by decide
        have hl1 : (s.heap.push (freshS w)).IsTuple l items := ⟨_, hol', rfl, nl, rfl⟩
        unfold Builtin.«set.__init__» noKeywords Builtin.Frozenset.updateFrom
        generalize hPI : pyIter = PI
        wp_walk
        subst hPI
        refine wpAny_pyIter_tuple hl1 (wpAny_bind (wpAny_runValue ?_))
        have hlt : l < s.heap.objs.size := Heap.lt_size hol
        have hh3 : A.in1.in1.in1.handled = none := by simp [hh]
        have hsz : (s.heap.push (freshS w)).objs.size = s.heap.objs.size + 1 := Heap.size_push ..
        have ne1 : l ≠ (s.heap.push (freshS w)).objs.size := by rw [hsz]; exact Nat.ne_of_lt (Nat.lt_succ_of_lt hlt)
        have ne2 : s.heap.objs.size ∉ [(s.heap.push (freshS w)).objs.size, l] := by
          rw [hsz]
          simp only [List.mem_cons, List.not_mem_nil, or_false, not_or]
          exact ⟨Nat.ne_of_lt (Nat.lt_succ_self _), Nat.ne_of_gt hlt⟩
        have val : ∀ (i : Nat) (v : Value), items[i]? = some v → ∃ q, ks[i]? = some q ∧ v = .ref q.1 := fun i v hv => by
          rw [← Array.getElem?_toList, hit, List.getElem?_map] at hv
          obtain ⟨q, h1, h2⟩ := Option.map_eq_some_iff.mp hv
          exact ⟨q, h1, h2.symm⟩
        have free : ∀ b, s.heap.objs.size ≤ b → s.heap.get? b = none := fun b hb => by
          cases hq : s.heap.get? b with
          | none => rfl
          | some o => exact absurd (Heap.lt_size hq) (Nat.not_lt.mpr hb)
        refine tx_loop ((Walks.tuple hh3 _ l ne1 items).toS) s.heap.objs.size ne2 ks size few val s.heap key (free _ (Nat.le_refl _)) (fun b hb => free b (by
            rw [List.mem_singleton.mp hb, hsz]
            exact Nat.le_succ _)) hu (items.size - 0) 0 _ (by omega) (Nat.zero_le _)
          ⟨⟨_, Heap.get?_push_size _ rfl, rfl, rfl⟩, (hl1.push _)⟩ (fun b o e => Heap.get?_push_of_some _ (Heap.get?_push_of_some _ e)) ?first ?last
        case first => exact ⟨[], #[], 0, _, tx_fresh (Heap.get?_push_of_some _ hS), Gt.nil ks⟩
        case last =>
          intro s' L es ep t mv hS' g up
          obtain ⟨h', g', d', tk', os'⟩ := s'
          obtain rfl : g' = s.gens := mv.gens
          obtain rfl : d' = s.drawn := mv.drawn
          obtain rfl : os' = s.os := mv.os
          show wpAny _ _ _ _ _ _
          refine wpAny_pure ?_
          show wpAny _ _ (ret Value.none) _ _ _
          rw [size] at g
          exact wpAny_pure ⟨rfl, h', tk', L, es, ep, t, rfl, hS', g, up⟩
      · cases r2 with
        | error e => exact hr2
        | ok fl2 =>
          cases fl2 with
          | ret r =>
            obtain ⟨rfl, h', tk, L, es, ep, t, rfl, hS', g, up⟩ := hr2
            repeat (any_goals (first | assumption | wp_step))
            exact q _ _ _ _ _ _ hS' g up
          | _ => exact hr2.elim
    | _ => exact hr.elim
end
end RF
set_option Elab.async false
set_option linter.all false
set_option maxRecDepth 100000
set_option maxHeartbeats 4000000
/-! sorted(set(t)), t a tuple of instructions -/
namespace RF
open PySem PySem.Spec L2 LamX NdefX
open PyProof.Rows hiding St
open PySem.W (dataLe dataLt alike alikeAll AllAlike Sortable)

/-! ### instructions in order -/
def keyI : Ins → List Str
  | .st x => [kSt, x]
  | .ld x => [kLd, x]
  | .sw x => [kSw, x]
  | .fe => [kFe]
theorem encI_key (i : Ins) : encI i = .tuple ((keyI i).map .str) := by cases i <;> rfl
theorem keyI_inj {i j : Ins} (h : keyI i = keyI j) : i = j := by
  cases i <;> cases j <;> simp [keyI, n_sl, n_sw, n_sf, n_lw, n_lf, n_wf, n_sl.symm, n_sw.symm, n_sf.symm, n_lw.symm, n_lf.symm, n_wf.symm] at h ⊢ <;> assumption
theorem str_anti {x y : Str} (h1 : dataLt (.str x) (.str y) = false) (h2 : dataLt (.str y) (.str x) = false) : x = y := by
  rw [PySem.W.dataLt_str, decide_eq_false_iff_not, List.not_lt] at h1 h2
  have e := List.le_antisymm h1 h2
  obtain ⟨⟨a⟩⟩ := x
  obtain ⟨⟨b⟩⟩ := y
  simp only at e
  rw [e]
theorem strs_anti : ∀ xs ys : List Str, dataLt (.tuple (xs.map .str)) (.tuple (ys.map .str)) = false → dataLt (.tuple (ys.map .str)) (.tuple (xs.map .str)) = false → xs = ys
  | [], [], _, _ => rfl
  | [], y :: ys, h, _ => by
    rw [PySem.W.dataLt_tuple] at h
    cases h
  | x :: xs, [], _, h => by
    rw [PySem.W.dataLt_tuple] at h
    cases h
  | x :: xs, y :: ys, h1, h2 => by
    rw [PySem.W.dataLt_tuple, List.map_cons, List.map_cons, PySem.W.dataLt_cons (by simp [alike]), eqv_str] at h1 h2
    by_cases e : x = y
    · subst e
      rw [if_pos (by simp), ← PySem.W.dataLt_tuple] at h1 h2
      rw [strs_anti xs ys h1 h2]
    · have e' : ¬ y = x := fun z => e z.symm
      rw [if_neg (by simpa using e)] at h1
      rw [if_neg (by simpa using e')] at h2
      exact absurd (str_anti h1 h2) e
theorem encI_anti {i j : Ins} (h1 : dataLt (encI i) (encI j) = false) (h2 : dataLt (encI j) (encI i) = false) : i = j := by
  rw [encI_key, encI_key] at h1 h2
  exact keyI_inj (strs_anti _ _ h1 h2)
theorem sort_perm {bs cs : List Ins} (h : bs.Perm cs) : bs.mergeSort (dataLe false encI) = cs.mergeSort (dataLe false encI) := by
  refine List.Perm.eq_of_pairwise (le := fun a b => dataLt (encI b) (encI a) = false) (fun a b _ _ h1 h2 => encI_anti h2 h1) (sorted_by encI bs) (sorted_by encI cs) ?_
  exact (List.mergeSort_perm bs _).trans (h.trans (List.mergeSort_perm cs _).symm)
/-- each once -/
def uniq : List Ins → List Ins
  | [] => []
  | a :: l => if a ∈ l then uniq l else a :: uniq l
theorem mem_uniq {i : Ins} : ∀ {l : List Ins}, i ∈ uniq l ↔ i ∈ l
  | [] => Iff.rfl
  | a :: l => by
    unfold uniq
    split
    · rename_i h
      rw [mem_uniq (l := l), List.mem_cons]
      exact ⟨.inr, fun z => z.elim (fun e => e ▸ h) id⟩
    · rw [List.mem_cons, List.mem_cons, mem_uniq (l := l)]
theorem uniq_nodup : ∀ l : List Ins, (uniq l).Nodup
  | [] => .nil
  | a :: l => by
    unfold uniq
    split
    · exact uniq_nodup l
    · rename_i h
      exact List.nodup_cons.mpr ⟨fun z => h (mem_uniq.mp z), uniq_nodup l⟩
theorem uniq_le : ∀ l : List Ins, (uniq l).length ≤ l.length
  | [] => Nat.le_refl _
  | a :: l => by
    have := uniq_le l
    unfold uniq
    split <;> simp <;> omega
def sortU (os : List Ins) : List Ins := (uniq os).mergeSort (dataLe false encI)
theorem mem_sortU {i : Ins} {os : List Ins} : i ∈ sortU os ↔ i ∈ os := by
  unfold sortU
  rw [List.mem_mergeSort, mem_uniq]
theorem perm_of_map {α β : Type} (f : α → β) : ∀ {vs ws : List β}, vs.Perm ws → ∀ {l : List α}, ws = l.map f → ∃ m : List α, m.Perm l ∧ vs = m.map f := by
  intro vs ws h
  induction h with
  | nil =>
    intro l e
    cases l with
    | nil => exact ⟨[], .nil, rfl⟩
    | cons a l => cases e
  | cons x _ ih =>
    intro l e
    cases l with
    | nil => cases e
    | cons a l =>
      cases e
      obtain ⟨m, hm, e⟩ := ih rfl
      exact ⟨a :: m, hm.cons a, by rw [List.map_cons, e]⟩
  | swap x y l0 =>
    intro l e
    cases l with
    | nil => cases e
    | cons a l =>
      cases l with
      | nil => cases e
      | cons b l =>
        cases e
        exact ⟨b :: a :: l, .swap a b l, rfl⟩
  | trans _ _ ih1 ih2 =>
    intro l e
    obtain ⟨m, hm, e2⟩ := ih2 e
    obtain ⟨m2, hm2, e3⟩ := ih1 e2
    exact ⟨m2, hm2.trans hm, e3⟩
/-! ### the set in the heap -/
def TxO (P : Program) (w : World) (a : Addr) (L : TxL) : HO := .ext fun h => ∃ (es : Array (Int × Value)) (ep : Nat) (t : SetTable), (∃ o, h.get? a = some o ∧ o.ExactSet ∧ o.data = .set es ep t) ∧ es.toList = txRow P w L ∧ TabOk t (txHs P w L) ∧ (L.map (·.2)).Nodup ∧
  (w.params.followText "set-order" = true ∨ t.led = true) ∧ L.length * 5 < t.mask * 3 ∧ L.length < 64
theorem txO_new {P : Program} {w : World} {H : Hp} {h : Heap} {a : Addr} {L : TxL} {es : Array (Int × Value)} {ep : Nat} {t : SetTable} (R : TxSet P w h a L es ep t) : ObjOk P w H h a (TxO P w a L) := by
  obtain ⟨o, ho, r⟩ := R.obj
  refine ⟨⟨es, ep, t, ⟨o, ho, r⟩, R.row, R.tab, R.dif, R.led, R.spc, R.few⟩, ⟨o, ho⟩, fun h1 h2 p k => ?_⟩
  obtain ⟨es', ep', t', ⟨o', ho', r'⟩, q'⟩ := p
  exact ⟨es', ep', t', ⟨o', k o' ho', r'⟩, q'⟩
section
variable {X : Cx} {pins : List (Addr × Obj)} {σ : St} {H : Hp} {s : Shared}
theorem str_itemsAre {P : Program} {w : World} : ∀ {k : List Str} {us : List Value}, Vals (k.map V.str) us → ItemsAre (PySem.strKind P w) k us
  | [], _, .nil => .nil
  | x :: k, _, .cons r t => by
    obtain ⟨tk, rfl⟩ := r
    exact .cons (by simp [PySem.strKind, Value.isStrOf]) (str_itemsAre t)
theorem txt_at (I : Inv X pins σ H s) {b : Addr} {k : List Str} (h : Dt H (.ref b) (.tuple (k.map .str))) : TxT X.prog X.w s.heap k b := by
  obtain ⟨a, xs, e, ha, hd⟩ := h.inv_tup
  cases e
  obtain rfl := vals_str hd
  obtain ⟨_, its, rv, o, ho, hc, n, hdat⟩ := I.hok _ _ ha
  exact ⟨o, its.toArray, n, ho, hc, hdat, by simpa using str_itemsAre rv⟩
theorem refs_vals : ∀ {ks : TxL} {us : List Value}, Vals (ks.map fun q => V.ref q.1) us → us = ks.map fun q => Value.ref q.1
  | [], _, .nil => rfl
  | q :: ks, _, .cons r t => by
    cases r
    rw [refs_vals t]
    rfl
def rSetTx (P : Program) (w : World) : List V → Hp → VK → Prop := fun xs H Q => ∃ (l : Addr) (ks : TxL), xs = [V.ref l] ∧ H l = some (.tup (ks.map fun q => V.ref q.1)) ∧ (∀ q ∈ ks, Dt H (.ref q.1) (.tuple (q.2.map .str))) ∧ ks.length < 64 ∧
  ∀ a L, H a = none → (∀ q ∈ L, q ∈ ks) → (∀ q ∈ ks, q.2 ∈ L.map (·.2)) → (L.map (·.2)).Nodup → Q (.ref a) (upd H a (TxO P w a L))
theorem cr_setTx (hh : X.A.handled = none) (hu : X.A.units + 64 < cLine) : CallR X (.type "set") (rSetTx X.prog X.w) := by
  intro pins s σ H xs us Q I r h
  obtain ⟨l, ks, rfl, hl, hk, few, q⟩ := h
  rw [Vals.ref1 r]
  obtain ⟨_, its, rv, o, ho, hc, n, hdat⟩ := I.hok _ _ hl
  have free : H s.heap.objs.size = none := I.hok.fresh (Nat.le_refl _)
  refine tx_call (P := X.prog) (w := X.w) (items := its.toArray) ks hh ⟨o, ho, hc, n, hdat⟩ (by simpa using refs_vals rv) (fun q hq => txt_at I (hk q hq)) few (by omega) fun h' tk L es ep t R g up => ?_
  refine ⟨.ref s.heap.objs.size, upd H s.heap.objs.size (TxO X.prog X.w s.heap.objs.size L), I.laid (t' := tk) up (Nat.le_refl _) (txO_new R), rfl, q _ L free g.sub (fun z hz => ?_) R.dif⟩
  obtain ⟨j, hj⟩ := List.mem_iff_getElem?.mp hz
  exact g.all j z (List.getElem?_eq_some_iff.mp hj).1 hj
/-- sorted(..) of such a set of instructions -/
def rSortTx (P : Program) (w : World) (os : List Ins) : List V → Hp → VK → Prop := fun vs H Q => ∃ (a : Addr) (L : TxL), vs = [V.ref a] ∧ H a = some (TxO P w a L) ∧ (∀ q ∈ L, ∃ i ∈ os, q.2 = keyI i ∧ Dt H (.ref q.1) (encI i)) ∧ (∀ i ∈ os, keyI i ∈ L.map (·.2)) ∧
  ∀ p ys, H p = none → DtL (upd H p (.lst ys)) ys ((sortU os).map encI) → Q (.ref p) (upd H p (.lst ys))
theorem alike_encI (L : List Ins) : AllAlike (L.map encI) := PySem.W.AllAlike.of fun b b' => by cases b <;> cases b' <;> simp [encI, alike, alikeAll]
theorem sortable_encI (L : List Ins) : Sortable (L.map encI) := PySem.W.Sortable.tuples (enc := encI) fun b => by cases b <;> exact ⟨_, _, rfl⟩
theorem depth_encI (i : Ins) : (encI i).depth ≤ 10 := by
  cases i <;> simp [encI, PyData.depth, PyData.depthAll]
theorem each_ins {H : Hp} {os : List Ins} : ∀ L : TxL, (∀ q ∈ L, ∃ i ∈ os, q.2 = keyI i ∧ Dt H (.ref q.1) (encI i)) → ∃ bs : List Ins, bs.map keyI = L.map (·.2) ∧ (∀ i ∈ bs, i ∈ os) ∧ PySem.W.EachIs (Std H encI) (L.map fun q => Value.ref q.1) bs
  | [], _ => ⟨[], rfl, fun i h => (nomatch h), .nil⟩
  | q :: L, h => by
    obtain ⟨bs, h1, h2, h3⟩ := each_ins L fun z hz => h z (.tail _ hz)
    obtain ⟨i, hi, e, hd⟩ := h q (.head _)
    refine ⟨i :: bs, by rw [List.map_cons, List.map_cons, h1, e], fun j hj => ?_, .cons ⟨.ref q.1, rfl, hd⟩ h3⟩
    rcases List.mem_cons.mp hj with rfl | hj
    · exact hi
    · exact h2 j hj
theorem cr_sortTx (hh : X.A.handled = none) (hu : X.A.units + 66 < cLine) (os : List Ins) : CallR X (.builtin "sorted") (rSortTx X.prog X.w os) := by
  intro pins s σ H vs us Q I r h
  obtain ⟨a, L, rfl, ha, hL, hos, q⟩ := h
  rw [Vals.ref1 r]
  obtain ⟨es, ep, t, ⟨o, ho, hex, hd⟩, hrow, htab, hdif, hled, hspc, hfew⟩ := (I.hok a _ ha).1
  have R : TxSet X.prog X.w s.heap a L es ep t := ⟨⟨o, ho, hex, hd⟩, hrow, htab, hdif, fun z hz => by
    obtain ⟨i, _, e, hz'⟩ := hL z hz
    rw [e]
    rw [encI_key] at hz'
    exact txt_at I hz', hled, hspc, hfew⟩
  refine Calls.call_function_entry kind_sorted plain_sorted entry_sorted (args_sorted1 _) ?_
  unfold Builtin.«sorted»
  refine wpAny_bind (m := checkCount "sorted" 1 1 _) (wpAny_pure ?_)
  have esz := row_len R.row
  refine wpAny_bind (collect_set (A := X.A.in1) hh ⟨o, ho, hex.1, hd⟩ R.fit (by unfold scanBound; omega) htab.ris hled fun s1 vs k1 hz g1 o1 pm => ?_)
  rw [hrow] at pm
  obtain ⟨L', pL, rfl⟩ := perm_of_map (fun q : Addr × List Str => Value.ref q.1) pm (l := L) (by unfold txRow; rw [List.map_map]; rfl)
  obtain ⟨bs, b1, b2, el⟩ := each_ins L' fun z hz => hL z (pL.mem_iff.mp hz)
  -- the sorted list is the one
  have nd : bs.Nodup := by
    have : (bs.map keyI).Nodup := by
      rw [b1]
      exact (pL.map (·.2)).nodup_iff.mpr hdif
    exact nodup_of_map this
  have eU : bs.mergeSort (dataLe false encI) = sortU os := sort_perm ((List.perm_ext_iff_of_nodup nd (uniq_nodup os)).mpr fun i => by
    rw [mem_uniq]
    refine ⟨b2 i, fun hi => ?_⟩
    have hm : keyI i ∈ bs.map keyI := by
      rw [b1]
      exact (pL.map (·.2)).mem_iff.mpr (hos i hi)
    obtain ⟨j, hj, e⟩ := List.mem_map.mp hm
    rw [← keyI_inj e]
    exact hj)
  have len : bs.length < 64 := by
    have := congrArg List.length b1
    rw [List.length_map, List.length_map, pL.length_eq] at this
    omega
  have hsz : bs.length ≤ sizeLine := by rw [sizeLine_eq]; omega
  have vlen : (L'.map fun q : Addr × List Str => Value.ref q.1).length = bs.length := el.length
  refine wpAny_bind (wpAny_newList ?_ (by rw [vlen]; exact hsz))
  have I1 : Inv X pins σ H s1 := I.call' (ch := []) o1 (Un.kept k1) (I.hok.kept k1) (by rw [g1]; exact I.bare) fun _ z => nomatch z
  have hfr : H s1.heap.objs.size = none := I1.hok.fresh (Nat.le_refl _)
  have I2 : Inv X pins σ H { s1 with heap := s1.heap.push { cls := .type "list", data := .seq (L'.map fun q : Addr × List Str => Value.ref q.1).toArray } } := I1.kept (t' := s1.toks) fun b o e => Heap.get?_push_of_some _ e
  have hob : (s1.heap.push { cls := .type "list", data := .seq (L'.map fun q : Addr × List Str => Value.ref q.1).toArray }).get? s1.heap.objs.size = some (seqObj "list" (L'.map fun q : Addr × List Str => Value.ref q.1).toArray 0) := Heap.get?_push_size _ rfl
  generalize (L'.map fun q : Addr × List Str => Value.ref q.1) = us at el vlen I2 hob
  have er : PySem.W.EachIs (fun v b => ∃ as, Reads (s1.heap.push { cls := .type "list", data := .seq us.toArray }) v (encI b) as ∧ s1.heap.objs.size ∉ as) us bs := el.mono fun v b ⟨y, r1, d1⟩ => ⟨[], Dt.rd I2.hok _ _ _ d1 r1, by simp⟩
  refine wpAny_bind (wpAny_holding ?_)
  refine wpAny_mono (PySem.W.list_sort_data (A := X.A.in1) (E := X.xe) (s := { s1 with heap := s1.heap.push { cls := .type "list", data := .seq us.toArray } }) (Q := fun _ s' => EP X pins σ Q (.ref s1.heap.objs.size) s') hob el er (alike_encI bs) (sortable_encI bs) hsz (fun b _ => by
      have := depth_encI b
      show X.A.units + 1 + 1 + _ < _
      omega) fun out hl eo => ?_) (fun _ s' x => wpAny_pure ⟨_, rfl, x⟩) fun _ _ e => e
  obtain ⟨ys, rv', hd'⟩ := each_std eo
  rw [eU] at hd'
  obtain ⟨ep', he⟩ := sortedHeap_at (vs := us) (out := out.toArray) hob
  refine ⟨.ref s1.heap.objs.size, upd H s1.heap.objs.size (.lst ys), I1.laid (a := s1.heap.objs.size) (t' := s1.toks) (fun b o e => ?_) (Nat.le_refl _) ⟨by rw [rv'.length, hl]; exact hsz, out, ep', rv', he⟩, rfl, q _ _ hfr ?_⟩
  · have hb : b < s1.heap.objs.size := Heap.lt_size e
    exact (sortedHeap_old (Nat.ne_of_lt hb) (Heap.lt_size (Heap.get?_push_of_some _ e))).trans (Heap.get?_push_of_some _ e)
  · exact hd'.mono fun b zs e => by rw [upd_ne (ne_of_none e hfr)]; exact e
end
end RF
set_option Elab.async false
set_option linter.all false
set_option maxRecDepth 100000
set_option maxHeartbeats 8000000
/-! _law_goes -/
namespace RF
open PySem PySem.Spec L2 LamX NdefX
open PyProof.Rows hiding St
open PySem.W (dataLe)

theorem boot_set' : bootBuiltins "set" = some (.type "set") := by decide +kernel
theorem txs_of {H : Hp} : ∀ {os : List Ins} {xs : List V}, DtL H xs (os.map encI) → ∃ ks : TxL, xs = ks.map (fun q => V.ref q.1) ∧ ks.map (·.2) = os.map keyI ∧ ∀ q ∈ ks, ∃ i ∈ os, q.2 = keyI i ∧ Dt H (.ref q.1) (encI i)
  | [], _, h => by
    cases h
    exact ⟨[], rfl, rfl, fun q h => nomatch h⟩
  | i :: os, _, h => by
    cases h with
    | cons h1 t =>
      obtain ⟨ks, rfl, e, hk⟩ := txs_of t
      have h1' := h1
      rw [encI_key] at h1'
      obtain ⟨a, _, rfl, _, _⟩ := h1'.inv_tup
      refine ⟨(a, keyI i) :: ks, rfl, by rw [List.map_cons, List.map_cons, e], fun q hq => ?_⟩
      rcases List.mem_cons.mp hq with rfl | hq
      · exact ⟨i, .head _, rfl, h1⟩
      · obtain ⟨j, hj, r⟩ := hk q hq
        exact ⟨j, .tail _ hj, r⟩
section
variable {T : List (Addr × Str)} {X : Cx} {e : Expr} {σ : St} {H : Hp} {pos pos2 p p2 : Pos} {os : List Ins}
theorem ev_sortSet (h : EvD T X e σ H (.tuple (os.map encI))) (hl : os.length < 64) {kR : Nat} (hr : Room kR X.A) (hm : X.mg "sorted" = none) (hm2 : X.mg "set" = none) (hg : Gl X "sorted" := by rfl) (hg2 : Gl X "set" := by rfl)
    (hst : starEach [Expr.Call (.Name "set" p2) [e] [] pos2] X.env = (false, eval (.Call (.Name "set" p2) [e] [] pos2) X.env) :: starEach [] X.env := by rfl) (hst2 : starEach [e] X.env = (false, eval e X.env) :: starEach [] X.env := by rfl)
    (hpl : (backTo pos (starEach [] X.env)).any (·.1) = false := by rfl) (hpl2 : (backTo pos2 (starEach [] X.env)).any (·.1) = false := by rfl) :
    EvL T X (.Call (.Name "sorted" p) [.Call (.Name "set" p2) [e] [] pos2] [] pos) σ H ((sortU os).map encI) := fun H1 l Q q => by
  have un := hr.un
  refine w_pe (pe_callB (cr_sortTx hr.hd (room66 hr) os) hg hm boot_sorted (pa_cons pe_w pa_nil hst) (by decide) (by decide) hst hpl) ?_
  refine w_pe (pe_callTy (cr_setTx hr.hd (by have := room66 hr; omega)) hg2 hm2 boot_set' (pa_cons pe_w pa_nil hst2) (by decide) (by decide) hst2 hpl2) (h H1 l _ fun v H2 l2 hv => ?_)
  obtain ⟨r, xs, rfl, hr2, hd⟩ := (sl_d hv).inv_tup
  obtain ⟨ks, rfl, ek, hk⟩ := txs_of hd
  have len : ks.length = os.length := by
    have := congrArg List.length ek
    simpa using this
  refine ⟨r, ks, rfl, hr2, fun z hz => ?_, by omega, fun a L na sub all dif => ?_⟩
  · obtain ⟨i, _, ei, hi⟩ := hk z hz
    rw [ei, ← encI_key]
    exact hi
  · have l3 : Le T H2 (upd H2 a (TxO X.prog X.w a L)) := .new na
    refine ⟨a, L, rfl, upd_same, fun z hz => ?_, fun i hi => ?_, fun p ys hp hd => q p ys _ (l2.fr p (l3.fr p hp)) ((l2.trans l3).trans (.new hp)) upd_same hd⟩
    · obtain ⟨i, hi, ei, hd⟩ := hk z (sub z hz)
      exact ⟨i, hi, ei, hd.mono l3.tk⟩
    · have hm : keyI i ∈ ks.map (·.2) := by
        rw [ek]
        exact List.mem_map.mpr ⟨i, hi, rfl⟩
      obtain ⟨z, hz, e⟩ := List.mem_map.mp hm
      rw [← e]
      exact all z hz
end
/-! ### what the law collects -/
theorem cutD_from {r : List Ins} {j : Nat} (h : j ≤ r.length) : cutD (r.map encI) (some (j : Int)) none = (r.drop j).map encI := by
  unfold cutD
  have e : HT.sIx (r.map encI).length (r.map encI).length none = r.length := by
    show (r.map encI).length = _
    rw [List.length_map]
  rw [e, HT.sIx_nat, List.length_map, Nat.min_eq_left h, ← List.map_drop, List.take_of_length_le (by rw [List.length_map, List.length_drop]; omega)]
def innerM (r : List Ins) (i : Ins) : List Nat := (r.zipIdx.filter fun z => lmeet i z.1).map (·.2)
theorem inner_gen (q : Ins → Bool) : ∀ (r : List Ins) (n : Nat), (((r.zipIdx n).filter fun z => q z.1).map (·.2) = [] ∧ r.dropWhile (fun o => !q o) = []) ∨ ∃ j rest, ((r.zipIdx n).filter fun z => q z.1).map (·.2) = (n + j) :: rest ∧ j ≤ r.length ∧ r.dropWhile (fun o => !q o) = r.drop j
  | [], n => .inl ⟨rfl, rfl⟩
  | a :: r, n => by
    cases h : q a with
    | true =>
      refine .inr ⟨0, ((r.zipIdx (n + 1)).filter fun z => q z.1).map (·.2), ?_, Nat.zero_le _, ?_⟩
      · rw [List.zipIdx_cons, List.filter_cons_of_pos (by exact h)]
        rfl
      · rw [List.dropWhile_cons_of_neg (by simp [h])]
        rfl
    | false =>
      rw [List.zipIdx_cons, List.filter_cons_of_neg (by simp [h]), List.dropWhile_cons_of_pos (by simp [h])]
      rcases inner_gen q r (n + 1) with ⟨h1, h2⟩ | ⟨j, rest, h1, h2, h3⟩
      · exact .inl ⟨h1, h2⟩
      · refine .inr ⟨j + 1, rest, ?_, by simpa using h2, ?_⟩
        · rw [h1]
          congr 1
          omega
        · rw [h3]
          rfl
theorem inner_cases {p : Prog} {t : Nat} {r : List Ins} (hr : p[t]? = some r) (i : Ins) : (innerM r i = [] ∧ sufM p i t = []) ∨ ∃ j rest, innerM r i = j :: rest ∧ j ≤ r.length ∧ sufM p i t = r.drop j := by
  have e : sufM p i t = r.dropWhile fun o => !lmeet i o := by
    unfold sufM
    rw [hr]
    rfl
  rw [e]
  rcases inner_gen (lmeet i) r 0 with h | ⟨j, rest, h1, h2, h3⟩
  · exact .inl h
  · rw [Nat.zero_add] at h1
    exact .inr ⟨j, rest, h1, h2, h3⟩
theorem layN (n : Nat) : (encN n).canLay0 = true ∧ (encN n).depth ≤ 10 := by
  simp [PyData.canLay0, PyData.depth]
theorem shapedNs (ns : List Nat) : SeqAt.shaped (.list (ns.map encN)) = true := shaped_list fun d hd => by
  obtain ⟨x, _, rfl⟩ := List.mem_map.mp hd
  exact layN x
theorem any_on {α : Type} {l : List α} {p q : α → Bool} (h : ∀ a ∈ l, p a = q a) : l.any p = l.any q := by
  rw [Bool.eq_iff_iff, List.any_eq_true, List.any_eq_true]
  exact ⟨fun ⟨a, ha, e⟩ => ⟨a, ha, by rw [← h a ha]; exact e⟩, fun ⟨a, ha, e⟩ => ⟨a, ha, by rw [h a ha]; exact e⟩⟩
theorem goesM_nil {p : Prog} {g : Ins} {o : Ins} : ∀ k, goesM p g k o [] = false
  | 0 => rfl
  | k + 1 => rfl
theorem goes_fuel {p : Prog} {g o : Ins} {free : List Nat} {k : Nat} (h : free.length ≤ k) : goesM p g k o free = goesM p g free.length o free := by
  rw [Bool.eq_iff_iff]
  exact ⟨fun h1 => goes_of (go_of _ _ _ h1) _ (Nat.le_refl _), fun h1 => goes_of (go_of _ _ _ h1) _ h⟩
def stepM (p : Prog) (g i : Ins) (free : List Nat) (t : Nat) : Bool := ((sufM p i t).any fun o => lmeet o g) || (sufM p i t).any fun o => o.acc && goesM p g (free.filter fun f => !decide (f = t)).length o (free.filter fun f => !decide (f = t))
theorem goes_steps {p : Prog} {g i : Ins} {free : List Nat} : goesM p g free.length i free = free.any (stepM p g i free) := by
  cases hn : free.length with
  | zero =>
    rw [List.eq_nil_of_length_eq_zero hn]
    rfl
  | succ k =>
    unfold goesM stepM
    refine any_on fun t ht => ?_
    congr 1
    refine any_on fun o _ => ?_
    have := free_less ht
    rw [goes_fuel (k := k) (by omega)]
section
variable {P : Program} {w : World} {K : PySem.W.Frag} {mg : Str → Option Value} {base : Heap} {T : List (Addr × Str)} {f : Addr} {fd : FuncData} {k : Nat}
/-- _law_goes with at most n free threads -/
def spGoesN (T : List (Addr × Str)) (n : Nat) : Sp := fun vs H Q _ => ∃ (v1 v2 v3 : V) (r : Addr) (xs : List V) (p : Prog) (i g : Ins) (free : List Nat), vs = [v1, v2, v3, .ref r] ∧ Dt H v1 (encProg p) ∧ Dt H v2 (encI i) ∧ Dt H v3 (encI g) ∧ H r = some (.lst xs) ∧ DtL H xs (free.map encN) ∧ ProgOk p ∧ free.length ≤ n ∧ (∀ t ∈ free, t < p.length) ∧
  ∀ v H', Le T H H' → Dt H' v (.bool (goesM p g free.length i free)) → Q v H'
theorem goes_vN {n : Nat} {H : Hp} {r : Addr} {xs : List V} {p : Prog} {i g : Ins} {free : List Nat} (hr : H r = some (.lst xs)) (hx : DtL H xs (free.map encN)) (hp : ProgOk p) (hn : free.length ≤ n) (hf : ∀ t ∈ free, t < p.length) :
    SpV T (spGoesN T n) H [.d (encProg p), .d (encI i), .d (encI g), .v (.ref r)] (.d (.bool (goesM p g free.length i free))) := fun H1 vs l hv Q q => by
  obtain ⟨x, y, z, u, rfl, e1, e2, e3, e4⟩ := ss_four hv
  obtain rfl := sl_v e4
  exact ⟨x, y, z, r, xs, p, i, g, free, rfl, sl_d e1, sl_d e2, sl_d e3, l.lst hr, hx.mono l.tk, hp, hn, hf, fun v H2 l2 hv => q v H2 l2 ⟨_, rfl, hv⟩⟩
abbrev nGo : List Str := ["_law_plan", "_law_one", "_law_goal", "_law_free", "_law_thread", "_law_inner", "_law_at", "_law_other", "_law_rest", "_law_far", "_law_exits"]
theorem ok_goes_step (M : Nm mg) (n : Nat) (hn6 : n ≤ 6) (F : Fun K "_law_goes" "_law_goes" (topS 48) f fd) (C1 : Cal P w K mg base k "_law_meet" nLM (spR T 2 rLMeet)) (C2 : ∀ m, n = m + 1 → Cal P w K mg base k "_law_goes" gPs (spGoesN T m)) :
    FnOk P w K mg base CX0 (k + 1) f fd gPs (spGoesN T n) := by
  have S : FnScope nGo gPs (defScope (topS 48)) := ⟨rfl, rfl, rfl, by decide +kernel, rfl, by decide +kernel, by decide +kernel⟩
  refine fun_okW F S (fun vs H Q E h => ?_) fun X cdv A outer s H vs Q E e c hr h => ?_
  · obtain ⟨v1, v2, v3, r, xs, p, i, g, free, rfl, _⟩ := h
    rfl
  subst e
  obtain ⟨v1, v2, v3, r, xs, p, i, gl, free, rfl, h1, h2, h3, hfr, hfx, hp, hn, hf, q⟩ := h
  have g : Sg H (L2.start nGo [v1, v2, v3, .ref r]) [.d (encProg p), .d (encI i), .d (encI gl), .v (.ref r), .x, .x, .x, .x, .x, .x, .x] := by
    refine .cons ⟨_, rfl, h1⟩ (.cons ⟨_, rfl, h2⟩ (.cons ⟨_, rfl, h3⟩ (.cons rfl ?_)))
    repeat (first | exact .nil | refine .cons True.intro ?_)
  have hu : (cxOf CX0 P w K mg base nGo "_law_goes" (defScope (topS 48)) f cdv A outer s H E).nox.A.units + 64 < cLine := Nat.lt_of_succ_lt (room65 hr)
  rw [goes_steps] at q
  have hpl := hp.1
  refine s_forP (T := T) c (enc := encN) (L := free) (ei_lst (ev_v 3 g rfl) hfr hfx) g (fun j => (free.take j).any (stepM p gl i free) = false) rfl (fun Hs ls j t v σ' H' hj hP l g' dv => ?_) fun σ' H' hP l g' => ?_
  · have ht : t ∈ free := List.mem_of_getElem? hj
    have htp := hf t ht
    have hpos := List.length_pos_of_mem ht
    obtain ⟨m, hm⟩ : ∃ m, n = m + 1 := ⟨n - 1, by omega⟩
    have C2' := C2 m hm
    obtain ⟨row, hrow⟩ : ∃ row, p[t]? = some row := ⟨_, List.getElem?_eq_getElem htp⟩
    have hrl : row.length ≤ 16 := (hp.2 row (List.mem_of_getElem? hrow)).1
    have l0 : Le T H H' := ls.trans l
    refine g_name c 4 g' (s := .d (encN t)) ⟨v, rfl, dv⟩ fun σ1 g1 => ?_
    have g1' : Sg H' σ1 [.d (encProg p), .d (encI i), .d (encI gl), .v (.ref r), .d (.int (t : Int)), .x, .x, .x, .x, .x, .x] := g1
    -- inner
    refine s_setLcG (T := T) c 5 g1' (enc := encE encI) (L := row.zipIdx) (ei_enumT (ev_ix (d := encRow row) (ev_v 0 g1' rfl) (ev_v 4 g1' rfl) (atI_map hrow)) M.enumerate) [("_law_at", 6), ("_law_other", 7)] (blkOk_by (N := nGo) (sc := defScope (topS 48)) (own := [("_law_at", 6), ("_law_other", 7)]) (by decide +kernel)) (fun z => if lmeet i z.1 = true then some (encN z.2) else none) (by rw [List.length_zipIdx]; omega)
      (fun H1 l1 z u H2 hz l2 du => turn2 c 6 7 (by decide) g1' (d := .int (z.2 : Int)) (e := encI z.1) rfl (l1.trans l2) du (fun σ2 Xb hb g2 => ?_) rfl rfl rfl rfl) (fun qi ns σ2 H2 nqi l2 hqi dqi g2 => ?_) (sw_true rfl rfl rfl (by decide +kernel))
    · obtain ⟨s0, H0, C, cl, fp, rfl⟩ := hb
      refine ⟨et_one (EB.t (EB.to (k := lmeet i z.1) (eb_val (ev_callR (ds := [encI i, encI z.1]) C1 hr (ea_cons (ev_v 1 g2 rfl) (ea_1 (ev_v 7 g2 rfl))) ⟨i, z.1, rfl, rfl⟩)) (by cases lmeet i z.1 <;> rfl))), fun d hd => ?_⟩
      split at hd
      · cases hd
        exact ev_v 6 g2 rfl
      · cases hd
    rw [filterMap_if (fun z : Ins × Nat => lmeet i z.1) (fun z => encN z.2)] at dqi
    have dqi : DtL H2 ns ((innerM row i).map encN) := by
      unfold innerM
      rw [List.map_map]
      exact dqi
    have g2' : Sg H2 σ2 [.d (encProg p), .d (encI i), .d (encI gl), .v (.ref r), .d (.int (t : Int)), .v (.ref qi), .x, .x, .x, .x, .x] := g2
    have l02 := l0.trans l2
    have suflen : (sufM p i t).length ≤ 16 := by
      rcases inner_cases hrow i with ⟨_, e⟩ | ⟨j, rest, _, _, e⟩
      · rw [e]; exact Nat.zero_le _
      · rw [e, List.length_drop]
        omega
    refine s_forP (T := T) c (enc := encI) (L := sufM p i t) (ei_tup (ev_if (k := !((innerM row i).map encN).isEmpty) (eb_neNil hu (es_lst (ev_v 5 g2' rfl) hqi dqi) (shapedNs _)).t (fun hne => ?_) fun hne => ?_)) g2' (fun j => ((sufM p i t).take j).any (fun o => lmeet o gl) = false) rfl (fun Hb lb j2 o v2 σ3 H3 hj2 hP2 l3 g3 dv2 => ?_) fun σ3 H3 hP2 l3 g3 => ?_
    · rcases inner_cases hrow i with ⟨e, _⟩ | ⟨j, rest, e1, e2, e3⟩
      · rw [e] at hne
        cases hne
      · refine EvD.to (ev_slT (ds := row.map encI) (ev_ix (d := encRow row) (ev_v 0 g2' rfl) (ev_v 4 g2' rfl) (atI_map hrow)) (.so (ev_ixL (d := .int (j : Int)) (ev_v 5 g2' rfl) hqi dqi ev_int (show atI ((innerM row i).map encN) ((0 : Nat) : Int) = _ from atI_nat (by rw [e1]; rfl)))) .no) ?_
        rw [cutD_from e2, e3]
    · rcases inner_cases hrow i with ⟨_, e⟩ | ⟨j, rest, e1, e2, e3⟩
      · rw [e]
        exact ev_tup (ds := []) ea_nil
      · rw [e1] at hne
        cases hne
    · -- does it meet the goal
      have ho : o ∈ sufM p i t := List.mem_of_getElem? hj2
      refine g_name c 7 g3 (s := .d (encI o)) ⟨v2, rfl, dv2⟩ fun σ4 g4 => ?_
      have g4' : Sg H3 σ4 [.d (encProg p), .d (encI i), .d (encI gl), .v (.ref r), .d (.int (t : Int)), .v (.ref qi), .x, .d (encI o), .x, .x, .x] := g4
      refine s_if0 (T := T) (k := lmeet o gl) (eb_val (ev_callR (ds := [encI o, encI gl]) C1 hr (ea_cons (ev_v 7 g4' rfl) (ea_1 (ev_v 2 g4' rfl))) ⟨o, gl, rfl, rfl⟩)) (fun hk H5 l5 => ?_) fun hk H5 l5 => ?_
      · refine s_retB (T := T) (b := true) (eb_val ev_bl) fun v6 H6 l6 hv6 => q v6 H6 (l02.trans (lb.trans (l3.trans (l5.trans l6)))) ?_
        have : free.any (stepM p gl i free) = true := List.any_eq_true.mpr ⟨t, ht, by
          unfold stepM
          rw [Bool.or_eq_true]
          exact .inl (List.any_eq_true.mpr ⟨o, ho, hk⟩)⟩
        rw [this]
        exact hv6
      · refine s_nil ⟨l3.trans l5, (g4'.mono l5.tk).forget 7, ?_⟩
        rw [List.take_succ, hj2, List.any_append, hP2]
        simp [hk]
    · rw [List.take_length] at hP2
      have l03 := l02.trans l3
      have g3' : Sg H3 σ3 [.d (encProg p), .d (encI i), .d (encI gl), .v (.ref r), .d (.int (t : Int)), .v (.ref qi), .x, .x, .x, .x, .x] := g3
      -- rest
      refine s_setN (T := T) c 8 g3' (ev_lc c (enc := encN) (L := free) (ei_lst (ev_v 3 g3' rfl) (l03.lst hfr) (hfx.mono l03.tk)) 9 g3' (fun z => if (!decide (z = t)) = true then some (encN z) else none) (fun z H4 σ4 Xb hz l4 hb g4 => ?_) (by omega) (blkOk_by (N := nGo) (sc := defScope (topS 48)) (own := [("_law_far", 9)]) (by decide +kernel))) fun qr rs σ4 H4 nqr l4 hqr dqr g4 => ?_
      · obtain ⟨s0, H0, C, cl, fp, rfl⟩ := hb
        refine ⟨et_one (EB.t (EB.to (eb_neI (x := (z : Int)) (y := (t : Int)) (ev_v 9 g4 rfl) (ev_v 4 g4 rfl)) ?_)), fun d hd => ?_⟩
        · by_cases hzt : z = t <;> simp [hzt, Int.natCast_inj]
        · split at hd
          · cases hd
            exact ev_v 9 g4 rfl
          · cases hd
      rw [filterMap_if (fun z => !decide (z = t))] at dqr
      generalize hrest : (free.filter fun z => !decide (z = t)) = rest at dqr
      have restLen : rest.length < free.length := by
        rw [← hrest]
        exact free_less ht
      have restIn : ∀ z ∈ rest, z < p.length := fun z hz => by
        rw [← hrest] at hz
        exact hf z (List.mem_filter.mp hz).1
      have g4' : Sg H4 σ4 [.d (encProg p), .d (encI i), .d (encI gl), .v (.ref r), .d (.int (t : Int)), .v (.ref qi), .x, .x, .v (.ref qr), .x, .x] := g4
      have l34 := l3.trans l4
      -- exits
      let ex : List Ins := if rest = [] then [] else sufM p i t
      have exlen : ex.length ≤ 16 := by
        show (if rest = [] then [] else sufM p i t).length ≤ 16
        split
        · exact Nat.zero_le _
        · exact suflen
      refine s_set (T := T) c 10 g4' (s := .d (.tuple (ex.map encI))) (ev_if (k := !((innerM row i).map encN).isEmpty && !(rest.map encN).isEmpty) (eb_and (eb_neNil hu (es_lst (ev_v 5 g4' rfl) (l34.lst hqi) (dqi.mono l34.tk)) (shapedNs _)) fun _ => eb_neNil hu (es_lst (ev_v 8 g4' rfl) hqr dqr) (shapedNs _)).t (fun hne => ?_) fun hne => ?_) fun v5 σ5 H5 l5 _ g5 => ?_
      · rw [Bool.and_eq_true] at hne
        have hrn : rest ≠ [] := by
          rintro rfl
          cases hne.2
        have eex : ex = sufM p i t := if_neg hrn
        rcases inner_cases hrow i with ⟨e, _⟩ | ⟨j, rest', e1, e2, e3⟩
        · rw [e] at hne
          cases hne.1
        · refine EvD.to (ev_slT (ds := row.map encI) (ev_ix (d := encRow row) (ev_v 0 g4' rfl) (ev_v 4 g4' rfl) (atI_map hrow)) (.so (ev_ixL (d := .int (j : Int)) (ev_v 5 g4' rfl) (l34.lst hqi) (dqi.mono l34.tk) ev_int (show atI ((innerM row i).map encN) ((0 : Nat) : Int) = _ from atI_nat (by rw [e1]; rfl)))) .no) ?_
          rw [cutD_from e2, eex, e3]
      · have eex : ex = [] := by
          show (if rest = [] then [] else sufM p i t) = []
          split
          · rfl
          · rename_i hrn
            rcases inner_cases hrow i with ⟨_, e⟩ | ⟨j, rest', e1, e2, e3⟩
            · exact e
            · rw [e1] at hne
              cases rest with
              | nil => exact absurd rfl hrn
              | cons _ _ => cases hne
        rw [eex]
        exact ev_tup (ds := []) ea_nil
      have g5' : Sg H5 σ5 [.d (encProg p), .d (encI i), .d (encI gl), .v (.ref r), .d (.int (t : Int)), .v (.ref qi), .x, .x, .v (.ref qr), .x, .d (.tuple (ex.map encI))] := g5
      have same : ((sortU ex).filter Ins.acc).any (fun o => goesM p gl rest.length o rest) = (sufM p i t).any fun o => o.acc && goesM p gl rest.length o rest := by
        rw [List.any_filter]
        rw [Bool.eq_iff_iff, List.any_eq_true, List.any_eq_true]
        constructor
        · rintro ⟨o, ho, h⟩
          refine ⟨o, ?_, h⟩
          have := mem_sortU.mp ho
          have e : ex = if rest = [] then [] else sufM p i t := rfl
          rw [e] at this
          split at this
          · cases this
          · exact this
        · rintro ⟨o, ho, h⟩
          refine ⟨o, mem_sortU.mpr ?_, h⟩
          show o ∈ if rest = [] then [] else sufM p i t
          split
          · rename_i hrn
            rw [hrn, goesM_nil, Bool.and_false] at h
            cases h
          · exact ho
      have sulen : (sortU ex).length ≤ 16 := by
        unfold sortU
        rw [List.length_mergeSort]
        exact Nat.le_trans (uniq_le _) exlen
      refine s_if0 (T := T) (k := (sufM p i t).any fun o => o.acc && goesM p gl rest.length o rest) ?_ (fun hk H6 l6 => ?_) fun hk H6 l6 => ?_
      · refine EB.to (eb_any (bs := ((sortU ex).filter Ins.acc).map fun o => goesM p gl rest.length o rest) c ?_ M.any) (by rw [List.any_map, ← same]; rfl)
        refine EvL.to (ev_lc c (enc := encI) (L := sortU ex) (ei_new (ev_sortSet (ev_v 10 g5' rfl) (by omega) hr M.sorted M.set)) 7 g5' (fun o => if o.acc = true then some (.bool (goesM p gl rest.length o rest)) else none) (fun o H6 σ6 Xb ho l6 hb g6 => ?_) (by omega) (blkOk_by (N := nGo) (sc := defScope (topS 48)) (own := [("_law_other", 7)]) (by decide +kernel))) ?_
        · obtain ⟨s0, H0, C, cl, fp, rfl⟩ := hb
          refine ⟨et_one (EB.t (EB.to (eb_neS (ev_i0 (ev_v 7 g6 rfl) ev_int) ev_str) ?_)), fun d hd => ?_⟩
          · cases o <;> simp [Ins.kind, Ins.acc, n_sf, n_lf, n_wf] <;> decide +kernel
          · split at hd
            · cases hd
              have l46 := l5.trans l6
              exact ev_call (ss := [.d (encProg p), .d (encI o), .d (encI gl), .v (.ref qr)]) C2' hr (ea_cons (ev_v 0 g6 rfl) (ea_cons (ev_v 7 g6 rfl) (ea_cons (ev_v 2 g6 rfl) (ea_1 (ev_v 8 g6 rfl))))) (goes_vN (l46.lst hqr) (dqr.mono l46.tk) hp (by omega) restIn)
            · cases hd
        · rw [filterMap_if Ins.acc (fun o => PyData.bool (goesM p gl rest.length o rest)), List.map_map]
          rfl
      · refine s_retB (T := T) (b := true) (eb_val ev_bl) fun v7 H7 l7 hv7 => q v7 H7 (l03.trans (l4.trans (l5.trans (l6.trans l7)))) ?_
        have : free.any (stepM p gl i free) = true := List.any_eq_true.mpr ⟨t, ht, by
          unfold stepM
          rw [Bool.or_eq_true, hrest]
          exact .inr hk⟩
        rw [this]
        exact hv7
      · refine s_nil ⟨l.trans (l2.trans (l34.trans (l5.trans l6))), ((((g5'.mono l6.tk).forget 4).forget 5).forget 8).forget 10, ?_⟩
        rw [List.take_succ, hj, List.any_append, hP]
        have : stepM p gl i free t = false := by
          unfold stepM
          rw [hP2, hrest, hk]
          rfl
        simp [this]
  · rw [List.take_length] at hP
    refine s_retB (T := T) (b := false) (eb_val ev_bl) fun v7 H7 l7 hv7 => q v7 H7 (l.trans l7) ?_
    rw [hP]
    exact hv7
end
end RF
set_option Elab.async false
set_option linter.all false
set_option maxRecDepth 100000
set_option maxHeartbeats 8000000
/-! every def of the text keeps its promise -/
namespace RF
open PySem PySem.Spec L2 LamX NdefX
open PyProof.Rows hiding St
/-- as many free threads as there are -/
theorem goes_sp {T : List (Addr × Str)} {vs : List V} {H : Hp} {Q : VK} {E : XK} (h : spGoes T vs H Q E) : spGoesN T 6 vs H Q E := by
  obtain ⟨v1, v2, v3, r, xs, p, i, g, free, e, h1, h2, h3, h4, h5, hp, nd, hf, q⟩ := h
  refine ⟨v1, v2, v3, r, xs, p, i, g, free, e, h1, h2, h3, h4, h5, hp, ?_, hf, q⟩
  have := nodup_le (U := List.range p.length) nd fun t ht => List.mem_range.mpr (hf t ht)
  rw [List.length_range] at this
  exact Nat.le_trans this hp.1
abbrev BindOk (x qual : Str) (st : Stmt) (ps : List Str) : Prop := ∀ (kV doc pm : Value) (an : Option Addr) (cdv ct : Value) (us : List Value), us.length = ps.length → bindArgs (PySem.W.fnOf x qual (defArgs st) (defBody st) (defScope st) .none kV doc pm an cdv ct) ⟨us, []⟩ = pure (ps.zip us)
section
variable {P : Program} {w : World} {K : PySem.W.Frag} {h : Heap} {mg : Str → Option Value} {base : Heap} {k : Nat} {sp : Sp} {T : List (Addr × Str)}
theorem fun_of {x qual : Str} {st : Stmt} {f : Addr} {fd : FuncData} (F : FunD K x qual (defArgs st) (defBody st) (defScope st) [] [] f fd) : Fun K x qual st f fd := by
  obtain ⟨oc, od, dV, kV, doc, pm, an, cdv, ct, osl, rfl, lk, hcd, hD, _⟩ := F.ex
  rcases hD with ⟨_, rfl⟩ | ⟨e, _⟩
  · exact ⟨⟨oc, od, kV, doc, pm, an, cdv, ct, osl, rfl, lk, hcd⟩, F.kp⟩
  · exact absurd rfl e
theorem code_at {x qual : Str} {st : Stmt} {p : He.Defn} {fd : FuncData} (F : FunD K x qual (defArgs st) (defBody st) (defScope st) [] [] (He.fAd K p) fd) : fd.code = .ref (He.cT K p).1 := by
  obtain ⟨oc, od, dV, kV, doc, pm, an, cdv, ct, osl, rfl, lk, hcd, _, _⟩ := F.ex
  obtain ⟨c, rfl⟩ := He.codeIn_ref hcd
  have e := He.codeOf_eq lk rfl
  show Value.ref c = .ref (He.codeOf K p)
  rw [e]
theorem mkCal (X : K.In h) (G : h.Ns mainGlobals mg) (c : He.SaysD faAll fnAll K) (i j : Nat) {x : Str} {st : Stmt} {ps : List Str} (bi : BindOk x x st ps) (ok : ∀ f fd, Fun K x x st f fd → FnOk P w K mg base CX0 k f fd ps sp)
    (hi : fnAll[i]? = some ⟨(x, none), x, x, defArgs st, defBody st, defScope st, [], []⟩ := by rfl) (hj : faAll[j]? = some (.glo x) := by rfl) : Cal P w K mg base k x ps sp := by
  obtain ⟨fd, F⟩ := c.def_ i hi
  exact ⟨_, fd, ok _ fd (fun_of F), He.glo_ok X G (c.fact j hj), F.kp, F.bindsN bi⟩
/-- .. that makes lambdas -/
theorem mkCalL (X : K.In h) (G : h.Ns mainGlobals mg) (c : He.SaysD faAll fnAll K) (i j : Nat) {x : Str} {st : Stmt} {ps : List Str} (bi : BindOk x x st ps) (ok : ∀ f fd, Fun K x x st f fd → fd.code = .ref (He.cT K (x, none)).1 → FnOk P w K mg base CX0 k f fd ps sp)
    (hi : fnAll[i]? = some ⟨(x, none), x, x, defArgs st, defBody st, defScope st, [], []⟩ := by rfl) (hj : faAll[j]? = some (.glo x) := by rfl) : Cal P w K mg base k x ps sp := by
  obtain ⟨fd, F⟩ := c.def_ i hi
  exact ⟨_, fd, ok _ fd (fun_of F) (code_at F), He.glo_ok X G (c.fact j hj), F.kp, F.bindsN bi⟩
theorem mkMet (c : He.SaysD faAll fnAll K) (i j : Nat) {C m qual : Str} {st : Stmt} {ps : List Str} (bi : BindOk m qual st ps) (ok : ∀ f fd, Fun K m qual st f fd → fd.code = .ref (He.cT K (C, some m)).1 → FnOk P w K mg base CX0 k f fd ps sp)
    (hi : fnAll[i]? = some ⟨(C, some m), m, qual, defArgs st, defBody st, defScope st, [], []⟩ := by rfl) (hj : faAll[j]? = some (.meth C m) := by rfl) : MetC P w K mg base k (He.ga K C) m ps sp := by
  obtain ⟨fd, F⟩ := c.def_ i hi
  exact ⟨_, fd, ok _ fd (fun_of F) (code_at F), He.meth_ok (c.fact j hj), F.bindsN bi⟩
theorem mkMak (X : K.In h) (G : h.Ns mainGlobals mg) (c : He.SaysD faAll fnAll K) (i j l : Nat) {C qual : Str} {st : Stmt} {ps : List Str} (bi : BindOk "__init__" qual st ps) (ok : ∀ f fd, Fun K "__init__" qual st f fd → fd.code = .ref (He.cT K (C, some "__init__")).1 → FnOk P w K mg base CX0 k f fd ps sp)
    (hi : fnAll[i]? = some ⟨(C, some "__init__"), "__init__", qual, defArgs st, defBody st, defScope st, [], []⟩ := by rfl) (hj : faAll[j]? = some (.mkr C) := by rfl) (hl : faAll[l]? = some (.glo C) := by rfl) : MakC P w K mg base k C (He.ga K C) ps sp := by
  obtain ⟨fd, F⟩ := c.def_ i hi
  exact ⟨_, fd, ok _ fd (fun_of F) (code_at F), He.mkr_ok (c.fact j hj), He.glo_ok X G (c.fact l hl), F.bindsN bi⟩
theorem nm_of (X : K.In h) (G : h.Ns mainGlobals mg) (c : He.SaysD faAll fnAll K) : Nm mg where
  fence := He.str_ok X G (c.fact 44 (f := .str "FENCE" "fence") rfl)
  load := He.str_ok X G (c.fact 45 (f := .str "LOAD" "load") rfl)
  store := He.str_ok X G (c.fact 46 (f := .str "STORE" "store") rfl)
  swap := He.str_ok X G (c.fact 47 (f := .str "SWAP" "swap") rfl)
  line := He.str_ok X G (c.fact 48 (f := .str "LINE" "line") rfl)
  lanes := He.str_ok X G (c.fact 49 (f := .str "LANES" "lanes") rfl)
  parts := He.int_ok X G (c.fact 50 (f := .int "REMEDY_PARTS" 3) rfl)
  any := He.free_ok X G (c.fact 51 (f := .free "any") rfl)
  all := He.free_ok X G (c.fact 52 (f := .free "all") rfl)
  len := He.free_ok X G (c.fact 53 (f := .free "len") rfl)
  range := He.free_ok X G (c.fact 54 (f := .free "range") rfl)
  enumerate := He.free_ok X G (c.fact 55 (f := .free "enumerate") rfl)
  tuple := He.free_ok X G (c.fact 56 (f := .free "tuple") rfl)
  list := He.free_ok X G (c.fact 57 (f := .free "list") rfl)
  set := He.free_ok X G (c.fact 58 (f := .free "set") rfl)
  dict := He.free_ok X G (c.fact 59 (f := .free "dict") rfl)
  sorted := He.free_ok X G (c.fact 60 (f := .free "sorted") rfl)
  min := He.free_ok X G (c.fact 61 (f := .free "min") rfl)
  max := He.free_ok X G (c.fact 62 (f := .free "max") rfl)
  sum := He.free_ok X G (c.fact 63 (f := .free "sum") rfl)
  abs := He.free_ok X G (c.fact 64 (f := .free "abs") rfl)
  int := He.free_ok X G (c.fact 65 (f := .free "int") rfl)
  bool := He.free_ok X G (c.fact 66 (f := .free "bool") rfl)
  isinstance := He.free_ok X G (c.fact 67 (f := .free "isinstance") rfl)
theorem way_of (c : He.SaysD faAll fnAll K) : WayT K (He.ga K "Ways") := ⟨He.cls_ok (c.fact 68 (f := .cls "Ways") rfl), He.noat_ok (c.fact 72 (f := .noat "Ways" "threads") rfl), He.noat_ok (c.fact 73 (f := .noat "Ways" "home") rfl), He.noat_ok (c.fact 74 (f := .noat "Ways" "entries") rfl)⟩
theorem mkt_of (c : He.SaysD faAll fnAll K) : MktT K (He.ga K "Market") := ⟨He.cls_ok (c.fact 70 (f := .cls "Market") rfl), He.noat_ok (c.fact 75 (f := .noat "Market" "price_of") rfl), He.noat_ok (c.fact 76 (f := .noat "Market" "line") rfl), He.noat_ok (c.fact 77 (f := .noat "Market" "rest") rfl), He.noat_ok (c.fact 78 (f := .noat "Market" "weight_of") rfl), He.noat_ok (c.fact 79 (f := .noat "Market" "paid") rfl), He.noat_ok (c.fact 80 (f := .noat "Market" "pairs") rfl), He.noat_ok (c.fact 81 (f := .noat "Market" "is_possible") rfl)⟩
/-- the tables of the three defs with lambdas -/
def tabsT (K : PySem.W.Frag) : List (Addr × Str) := [((He.cT K ("from_the_left", none)).2, "from_the_left" ++ ".<locals>." ++ "<lambda>"), ((He.cT K ("Market", some "__init__")).2, "Market.__init__" ++ ".<locals>." ++ "<lambda>"), ((He.cT K ("Market", some "pay")).2, "Market.pay" ++ ".<locals>." ++ "<lambda>")]
theorem lam_of {p : He.Defn} {q : Str} (nd : exAll K = true) (hb : TabB base mg (He.cT K p).1 (He.cT K p).2) (i : Nat) (hi : (tabsT K)[i]? = some ((He.cT K p).2, q)) : LamD (tabsT K) base mg (He.cT K p).1 q := by
  refine ⟨_, hb, List.mem_of_getElem? hi, fun z hz e => ?_⟩
  have nd' : ((tabsT K).map (·.1)).Nodup := of_decide_eq_true nd
  obtain ⟨j, hj⟩ := List.mem_iff_getElem?.mp hz
  have hij : i = j := by
    have hi2 : i < ((tabsT K).map (·.1)).length := by
      rw [List.length_map]
      exact (List.getElem?_eq_some_iff.mp hi).1
    refine (List.getElem?_inj hi2 nd').mp ?_
    rw [List.getElem?_map, List.getElem?_map, hi, hj, Option.map_some, Option.map_some, e]
  subst hij
  rw [hi] at hj
  cases hj
  rfl
theorem parts_ok (X : K.In h) (G : h.Ns mainGlobals mg) (c : He.SaysD faAll fnAll K) (nd : exAll K = true) (tb : ∀ p ∈ tfAll, TabB base mg (He.cT K p).1 (He.cT K p).2) : Cal P w K mg base 9 "live_pairs" ["program", "buffers"] (spR (tabsT K) 2 rLive) ∧ Cal P w K mg base 14 "fewest" nPbw (spRT (tabsT K) 3 rFew) ∧ Cal P w K mg base 14 "apart" nPbw (spRT (tabsT K) 3 rApart) ∧ Cal P w K mg base 12 "cheapest" ["program", "buffers", "price_list"] (spCheap (tabsT K)) := by
  have M := nm_of X G c
  have W := way_of c
  have W2 := mkt_of c
  have c_is_integer := mkCal (P := P) (w := w) (base := base) (k := 1) X G c 0 0 (x := "is_integer") (st := topS 7) (fun _ _ _ _ _ _ us hl => match us, hl with | [_], _ => rfl) fun f fd F => ok_is_integer (T := tabsT K) M F
  have c_is_access_to := mkCal (P := P) (w := w) (base := base) (k := 1) X G c 1 1 (x := "is_access_to") (st := topS 8) (fun _ _ _ _ _ _ us hl => match us, hl with | [_], _ => rfl) fun f fd F => ok_is_access_to (T := tabsT K) M F
  have c_does_store := mkCal (P := P) (w := w) (base := base) (k := 1) X G c 2 2 (x := "does_store") (st := topS 9) (fun _ _ _ _ _ _ us hl => match us, hl with | [_], _ => rfl) fun f fd F => ok_does_store (T := tabsT K) M F
  have c_empties := mkCal (P := P) (w := w) (base := base) (k := 1) X G c 3 3 (x := "empties") (st := topS 10) (fun _ _ _ _ _ _ us hl => match us, hl with | [_], _ => rfl) fun f fd F => ok_empties (T := tabsT K) M F
  have c_instruction_at := mkCal (P := P) (w := w) (base := base) (k := 1) X G c 4 4 (x := "instruction_at") (st := topS 11) (fun _ _ _ _ _ _ us hl => match us, hl with | [_, _], _ => rfl) fun f fd F => ok_instruction_at (T := tabsT K) F
  have c_meets := mkCal (P := P) (w := w) (base := base) (k := 2) X G c 5 5 (x := "meets") (st := topS 12) (fun _ _ _ _ _ _ us hl => match us, hl with | [_, _, _], _ => rfl) fun f fd F => ok_meets F c_instruction_at c_does_store
  have c_queued := mkCal (P := P) (w := w) (base := base) (k := 1) X G c 6 6 (x := "queued") (st := topS 14) (fun _ _ _ _ _ _ us hl => match us, hl with | [_, _, _, _], _ => rfl) fun f fd F => ok_queued (T := tabsT K) M F
  have c_is_turnable := mkCal (P := P) (w := w) (base := base) (k := 2) X G c 7 7 (x := "is_turnable") (st := topS 15) (fun _ _ _ _ _ _ us hl => match us, hl with | [_, _, _, _], _ => rfl) fun f fd F => ok_is_turnable M F c_is_access_to c_empties
  have c_loose_pairs := mkCal (P := P) (w := w) (base := base) (k := 3) X G c 8 8 (x := "loose_pairs") (st := topS 16) (fun _ _ _ _ _ _ us hl => match us, hl with | [_, _], _ => rfl) fun f fd F => ok_loose_pairs M F c_is_turnable (c_queued.mono (by decide))
  have c_first_meeting := mkCal (P := P) (w := w) (base := base) (k := 3) X G c 9 9 (x := "first_meeting") (st := topS 17) (fun _ _ _ _ _ _ us hl => match us, hl with | [_, _, _], _ => rfl) fun f fd F => ok_first_meeting M F (c_is_access_to.mono (by decide)) c_meets
  have c_exits_from := mkCal (P := P) (w := w) (base := base) (k := 2) X G c 10 10 (x := "exits_from") (st := topS 18) (fun _ _ _ _ _ _ us hl => match us, hl with | [_, _], _ => rfl) fun f fd F => ok_exits_from M F c_is_access_to
  have m_enter := mkMet (P := P) (w := w) (mg := mg) (base := base) (k := 4) c 12 82 (C := "Ways") (m := "enter") (qual := "Ways.enter") (st := clsM 19 1) (fun _ _ _ _ _ _ us hl => match us, hl with | [_, _, _, _], _ => rfl) fun f fd F hc => ok_enter M W F c_first_meeting
  have m_go_on := mkMet (P := P) (w := w) (mg := mg) (base := base) (k := 5) c 13 83 (C := "Ways") (m := "go_on") (qual := "Ways.go_on") (st := clsM 19 2) (fun _ _ _ _ _ _ us hl => match us, hl with | [_, _], _ => rfl) fun f fd F hc => ok_go_on M W F (c_exits_from.mono (by decide)) m_enter
  have k_Ways := mkMak (P := P) (w := w) (base := base) (k := 6) X G c 11 69 11 (C := "Ways") (qual := "Ways.__init__") (st := clsM 19 0) (fun _ _ _ _ _ _ us hl => match us, hl with | [_, _, _, _], _ => rfl) fun f fd F hc => ok_way_init M W F (m_enter.mono (by decide)) m_go_on
  have m_ring_over := mkMet (P := P) (w := w) (mg := mg) (base := base) (k := 1) c 15 85 (C := "Ways") (m := "ring_over") (qual := "Ways.ring_over") (st := clsM 19 4) (fun _ _ _ _ _ _ us hl => match us, hl with | [_, _, _], _ => rfl) fun f fd F hc => ok_ring_over (T := tabsT K) M W F
  have m_ring_to := mkMet (P := P) (w := w) (mg := mg) (base := base) (k := 3) c 14 84 (C := "Ways") (m := "ring_to") (qual := "Ways.ring_to") (st := clsM 19 3) (fun _ _ _ _ _ _ us hl => match us, hl with | [_, _], _ => rfl) fun f fd F hc => ok_ring_to M W F c_exits_from c_meets (m_ring_over.mono (by decide))
  have c_rings_of := mkCal (P := P) (w := w) (base := base) (k := 8) X G c 16 12 (x := "rings_of") (st := topS 20) (fun _ _ _ _ _ _ us hl => match us, hl with | [_, _], _ => rfl) fun f fd F => ok_rings_of M W F (c_loose_pairs.mono (by decide)) k_Ways (m_ring_to.mono (by decide))
  have c_live_pairs := mkCal (P := P) (w := w) (base := base) (k := 9) X G c 17 13 (x := "live_pairs") (st := topS 21) (fun _ _ _ _ _ _ us hl => match us, hl with | [_, _], _ => rfl) fun f fd F => ok_live_pairs M F c_rings_of
  have c_cuts := mkCal (P := P) (w := w) (base := base) (k := 1) X G c 19 15 (x := "cuts") (st := topS 25) (fun _ _ _ _ _ _ us hl => match us, hl with | [_, _], _ => rfl) fun f fd F => ok_cuts (T := tabsT K) M F
  have c_is_remedy := mkCal (P := P) (w := w) (base := base) (k := 2) X G c 18 14 (x := "is_remedy") (st := topS 24) (fun _ _ _ _ _ _ us hl => match us, hl with | [_, _], _ => rfl) fun f fd F => ok_is_remedy M F c_is_integer
  have c_cuts_all := mkCal (P := P) (w := w) (base := base) (k := 2) X G c 20 16 (x := "cuts_all") (st := topS 26) (fun _ _ _ _ _ _ us hl => match us, hl with | [_, _], _ => rfl) fun f fd F => ok_cuts_all M F c_cuts
  have c_all_remedies := mkCal (P := P) (w := w) (base := base) (k := 3) X G c 21 17 (x := "all_remedies") (st := topS 27) (fun _ _ _ _ _ _ us hl => match us, hl with | [_, _], _ => rfl) fun f fd F => ok_all_remedies M F c_is_remedy
  have c_last_cut := mkCal (P := P) (w := w) (base := base) (k := 2) X G c 22 18 (x := "last_cut") (st := topS 28) (fun _ _ _ _ _ _ us hl => match us, hl with | [_, _], _ => rfl) fun f fd F => ok_last_cut M F c_cuts
  have c_point_of := mkCal (P := P) (w := w) (base := base) (k := 1) X G c 26 22 (x := "point_of") (st := topS 33) (fun _ _ _ _ _ _ us hl => match us, hl with | [_], _ => rfl) fun f fd F => ok_point_of (T := tabsT K) F
  have c_from_the_left := mkCalL (P := P) (w := w) (base := base) (k := 13) X G c 23 19 (x := "from_the_left") (st := topS 29) (fun _ _ _ _ _ _ us hl => match us, hl with | [_, _, _], _ => rfl) fun f fd F hc => ok_from_the_left M F hc (lam_of nd (tb _ (by simp [tfAll])) 0 rfl) (c_all_remedies.mono (by decide)) c_live_pairs (c_last_cut.mono (by decide)) (c_cuts_all.mono (by decide))
  have c_fewest := mkCal (P := P) (w := w) (base := base) (k := 14) X G c 24 20 (x := "fewest") (st := topS 30) (fun _ _ _ _ _ _ us hl => match us, hl with | [_, _, _], _ => rfl) fun f fd F => ok_fewest F c_from_the_left
  have c_apart := mkCal (P := P) (w := w) (base := base) (k := 14) X G c 25 21 (x := "apart") (st := topS 31) (fun _ _ _ _ _ _ us hl => match us, hl with | [_, _, _], _ => rfl) fun f fd F => ok_apart F c_from_the_left
  have m_cutters := mkMet (P := P) (w := w) (mg := mg) (base := base) (k := 2) c 28 86 (C := "Market") (m := "cutters") (qual := "Market.cutters") (st := clsM 34 1) (fun _ _ _ _ _ _ us hl => match us, hl with | [_, _], _ => rfl) fun f fd F hc => ok_cutters W2 F c_cuts
  have m_last_point := mkMet (P := P) (w := w) (mg := mg) (base := base) (k := 3) c 29 87 (C := "Market") (m := "last_point") (qual := "Market.last_point") (st := clsM 34 2) (fun _ _ _ _ _ _ us hl => match us, hl with | [_, _], _ => rfl) fun f fd F hc => ok_last_point W2 F m_cutters
  have m_pay := mkMet (P := P) (w := w) (mg := mg) (base := base) (k := 7) c 30 88 (C := "Market") (m := "pay") (qual := "Market.pay") (st := clsM 34 3) (fun _ _ _ _ _ _ us hl => match us, hl with | [_], _ => rfl) fun f fd F hc => ok_pay M W2 F hc (lam_of nd (tb _ (by simp [tfAll])) 2 rfl) (m_cutters.mono (by decide)) m_last_point
  have m_bought := mkMet (P := P) (w := w) (mg := mg) (base := base) (k := 3) c 31 89 (C := "Market") (m := "bought") (qual := "Market.bought") (st := clsM 34 4) (fun _ _ _ _ _ _ us hl => match us, hl with | [_], _ => rfl) fun f fd F hc => ok_bought M W2 F c_cuts_all
  have k_Market := mkMak (P := P) (w := w) (base := base) (k := 10) X G c 27 71 23 (C := "Market") (qual := "Market.__init__") (st := clsM 34 0) (fun _ _ _ _ _ _ us hl => match us, hl with | [_, _, _, _], _ => rfl) fun f fd F hc => ok_mkt_init M W2 F hc (lam_of nd (tb _ (by simp [tfAll])) 1 rfl) (c_point_of.mono (by decide)) c_live_pairs (m_cutters.mono (by decide)) (m_pay.mono (by decide))
  have c_cheapest := mkCal (P := P) (w := w) (base := base) (k := 12) X G c 32 24 (x := "cheapest") (st := topS 35) (fun _ _ _ _ _ _ us hl => match us, hl with | [_, _, _], _ => rfl) fun f fd F => ok_cheapest M W2 F k_Market (m_bought.mono (by decide))
  exact ⟨c_live_pairs, c_fewest, c_apart, c_cheapest⟩
theorem goes_ok (X : K.In h) (G : h.Ns mainGlobals mg) (c : He.SaysD faAll fnAll K) (C1 : Cal P w K mg base 1 "_law_meet" nLM (spR T 2 rLMeet)) : ∀ n, n ≤ 6 → Cal P w K mg base (n + 2) "_law_goes" gPs (spGoesN T n)
  | 0, _ => mkCal (P := P) (w := w) (base := base) (k := 2) X G c 44 36 (x := "_law_goes") (st := topS 48) (fun _ _ _ _ _ _ us hl => match us, hl with | [_, _, _, _], _ => rfl) fun f fd F => ok_goes_step (nm_of X G c) 0 (by decide) F C1 fun m e => by cases e
  | n + 1, hn => mkCal (P := P) (w := w) (base := base) (k := n + 1 + 2) X G c 44 36 (x := "_law_goes") (st := topS 48) (fun _ _ _ _ _ _ us hl => match us, hl with | [_, _, _, _], _ => rfl) fun f fd F => ok_goes_step (nm_of X G c) (n + 1) hn F (C1.mono (by omega)) fun m e => by
      cases e
      exact goes_ok X G c C1 n (by omega)
theorem Cal.imp {x : Str} {ps : List Str} {sp' : Sp} (C : Cal P w K mg base k x ps sp) (hh : ∀ vs H Q E, sp' vs H Q E → sp vs H Q E) : Cal P w K mg base k x ps sp' := by
  obtain ⟨f, fd, F, r⟩ := C.ex
  exact ⟨f, fd, F.imp hh, r⟩
theorem law_ok (X : K.In h) (G : h.Ns mainGlobals mg) (c : He.SaysD faAll fnAll K) (nd : exAll K = true) (tb : ∀ p ∈ tfAll, TabB base mg (He.cT K p).1 (He.cT K p).2) : Cal P w K mg base 15 "_law_urn" ["_law_script", "_law_k"] (spUrn (tabsT K) K) ∧ Cal P w K mg base 15 "_law_right" ["_law_urn_here"] (spRight (tabsT K)) := by
  have M := nm_of X G c
  obtain ⟨_, c_few, c_apart, c_cheap⟩ := parts_ok (P := P) (w := w) X G c nd tb
  have c__law_take := mkCal (P := P) (w := w) (base := base) (k := 1) X G c 34 26 (x := "_law_take") (st := topS 38) (fun _ _ _ _ _ _ us hl => match us, hl with | [_, _], _ => rfl) fun f fd F => ok_law_take (T := tabsT K) M F
  have c__law_urn := mkCal (P := P) (w := w) (base := base) (k := 1) X G c 33 25 (x := "_law_urn") (st := topS 37) (fun _ _ _ _ _ _ us hl => match us, hl with | [_, _], _ => rfl) fun f fd F => ok_law_urn (T := tabsT K) M F
  have c__law_of := mkCal (P := P) (w := w) (base := base) (k := 2) X G c 35 27 (x := "_law_of") (st := topS 39) (fun _ _ _ _ _ _ us hl => match us, hl with | [_, _], _ => rfl) fun f fd F => ok_law_of M F c__law_take
  have c__law_box := mkCal (P := P) (w := w) (base := base) (k := 3) X G c 39 31 (x := "_law_box") (st := topS 43) (fun _ _ _ _ _ _ us hl => match us, hl with | [_], _ => rfl) fun f fd F => ok_law_box F c__law_of
  have c__law_instruction := mkCal (P := P) (w := w) (base := base) (k := 3) X G c 37 29 (x := "_law_instruction") (st := topS 41) (fun _ _ _ _ _ _ us hl => match us, hl with | [_, _], _ => rfl) fun f fd F => ok_law_instruction M F (c__law_take.mono (by decide)) c__law_of
  have c__law_names := mkCal (P := P) (w := w) (base := base) (k := 2) X G c 36 28 (x := "_law_names") (st := topS 40) (fun _ _ _ _ _ _ us hl => match us, hl with | [_, _], _ => rfl) fun f fd F => ok_law_names M F c__law_take
  have c__law_near := mkCal (P := P) (w := w) (base := base) (k := 4) X G c 38 30 (x := "_law_near") (st := topS 42) (fun _ _ _ _ _ _ us hl => match us, hl with | [_], _ => rfl) fun f fd F => ok_law_near M F (c__law_take.mono (by decide)) (c__law_of.mono (by decide)) (c__law_names.mono (by decide)) c__law_instruction
  have c__law_meet := mkCal (P := P) (w := w) (base := base) (k := 1) X G c 40 32 (x := "_law_meet") (st := topS 44) (fun _ _ _ _ _ _ us hl => match us, hl with | [_, _], _ => rfl) fun f fd F => ok_law_meet (T := tabsT K) F
  have c__law_waits := mkCal (P := P) (w := w) (base := base) (k := 1) X G c 41 33 (x := "_law_waits") (st := topS 45) (fun _ _ _ _ _ _ us hl => match us, hl with | [_, _, _, _], _ => rfl) fun f fd F => ok_law_waits (T := tabsT K) M F
  have c__law_is_loose := mkCal (P := P) (w := w) (base := base) (k := 2) X G c 42 34 (x := "_law_is_loose") (st := topS 46) (fun _ _ _ _ _ _ us hl => match us, hl with | [_, _, _, _], _ => rfl) fun f fd F => ok_law_is_loose M F c__law_waits
  have c__law_loose := mkCal (P := P) (w := w) (base := base) (k := 3) X G c 43 35 (x := "_law_loose") (st := topS 47) (fun _ _ _ _ _ _ us hl => match us, hl with | [_, _], _ => rfl) fun f fd F => ok_law_loose M F c__law_is_loose
  have c_goes := (goes_ok X G c c__law_meet 6 (by decide)).imp (fun vs H Q E hh => goes_sp (T := tabsT K) hh)
  have c__law_live := mkCal (P := P) (w := w) (base := base) (k := 9) X G c 45 37 (x := "_law_live") (st := topS 49) (fun _ _ _ _ _ _ us hl => match us, hl with | [_, _], _ => rfl) fun f fd F => ok_law_live M F (c__law_loose.mono (by decide)) c_goes
  have c__law_every := mkCal (P := P) (w := w) (base := base) (k := 1) X G c 46 38 (x := "_law_every") (st := topS 50) (fun _ _ _ _ _ _ us hl => match us, hl with | [_], _ => rfl) fun f fd F => ok_law_every (T := tabsT K) M F
  have c__law_cut := mkCal (P := P) (w := w) (base := base) (k := 1) X G c 47 39 (x := "_law_cut") (st := topS 51) (fun _ _ _ _ _ _ us hl => match us, hl with | [_, _], _ => rfl) fun f fd F => ok_law_cut (T := tabsT K) M F
  have c__law_covers := mkCal (P := P) (w := w) (base := base) (k := 2) X G c 48 40 (x := "_law_covers") (st := topS 52) (fun _ _ _ _ _ _ us hl => match us, hl with | [_, _], _ => rfl) fun f fd F => ok_law_covers M F c__law_cut
  have c__law_smallest := mkCal (P := P) (w := w) (base := base) (k := 3) X G c 49 41 (x := "_law_smallest") (st := topS 53) (fun _ _ _ _ _ _ us hl => match us, hl with | [_, _], _ => rfl) fun f fd F => ok_law_smallest M F (c__law_cut.mono (by decide)) c__law_covers
  have c__law_right := mkCal (P := P) (w := w) (base := base) (k := 15) X G c 50 42 (x := "_law_right") (st := topS 54) (fun _ _ _ _ _ _ us hl => match us, hl with | [_], _ => rfl) fun f fd F => ok_law_right M plain_ex F (c__law_near.mono (by decide)) (c__law_box.mono (by decide)) (c__law_every.mono (by decide)) (c__law_live.mono (by decide)) (c__law_smallest.mono (by decide)) c_few c_apart (c_cheap.mono (by decide))
  exact ⟨(c__law_urn.mono (by decide)), c__law_right⟩
end
/-- the law, at what the head leaves -/
theorem law_at {w : World} {K : PySem.W.Frag} {h : Heap} {mg : Str → Option Value} {fa : Addr} (X : K.In h) (G : h.Ns mainGlobals mg) (hfa : mg "law" = some (.ref fa)) (c : He.SaysX faAll fnAll [] tfAll exAll w h K) : LawAtS PySem.Challenge.rw_ringfences_k81_whole_fewest_by_all_subse w K CX0 16 63 "_law_script" mg fa h := by
  have cd := c.t.d
  obtain ⟨fd, F⟩ := cd.def_ 51 (d := d55) rfl
  have e := hfa.symm.trans (He.glo_ok X G (cd.fact 43 (f := .glo "law") rfl))
  cases e
  refine ⟨fd, tfAll.map fun p => He.cT K p, spLaw (tabsT K) K, fun q hq => ?_, fun q hq => ?_, fun q hq => ?_, fun s u => ?_, fun H a ns hl _ hT hS => ?_, fun base hX hG hb => ?_⟩
  · obtain ⟨p, hp, rfl⟩ := List.mem_map.mp hq
    exact c.empty p hp
  · obtain ⟨p, hp, rfl⟩ := List.mem_map.mp hq
    exact c.out p hp
  · obtain ⟨p, hp, rfl⟩ := List.mem_map.mp hq
    exact PySem.W.codeHd_of_K X (c.hd p hp)
  · exact FunD.bindsA (ps := ["_law_script"]) F (fun _ _ _ _ _ _ us hl => match us, hl with | [_], _ => rfl) s [u] rfl
  · refine ⟨a, ns, rfl, fun H2 l => ?_, by omega, fun p hp => ?_, fun H' => rfl⟩
    · rcases hS with hS | hS
      · rcases hS with hS | ⟨b, hS⟩
        · exact .inl (.inl (l.ex _ _ hS fun _ z => by cases z))
        · exact .inl (.inr ⟨b, l.ex _ _ hS fun _ z => by cases z⟩)
      · exact .inr hS
    · have hp' : ∃ q ∈ tfAll.map (fun p => He.cT K p), q.2 = p.1 := by
        have hp2 : p ∈ tabsT K := hp
        simp only [tabsT, List.mem_cons, List.not_mem_nil, or_false] at hp2
        rcases hp2 with rfl | rfl | rfl
        · exact ⟨_, List.mem_map.mpr ⟨_, by simp [tfAll], rfl⟩, rfl⟩
        · exact ⟨_, List.mem_map.mpr ⟨("Market", some "__init__"), by simp [tfAll], rfl⟩, rfl⟩
        · exact ⟨_, List.mem_map.mpr ⟨("Market", some "pay"), by simp [tfAll], rfl⟩, rfl⟩
      obtain ⟨q, hq, e⟩ := hp'
      refine ⟨#[], ?_, ?_, fun pos cv z => ?_⟩
      · rw [← e]
        exact hT q hq
      · exact True.intro
      · cases z
  · obtain ⟨c1, c2⟩ := law_ok (P := PySem.Challenge.rw_ringfences_k81_whole_fewest_by_all_subse.prog) (w := w) hX hG cd c.more fun p hp => hb _ (List.mem_map.mpr ⟨p, hp, rfl⟩)
    exact ok_law (nm_of hX hG cd) (fun_of F) c1 c2
end RF
set_option Elab.async false
open PySem PySem.W PySem.Calls PyProof.Rows
set_option maxRecDepth 100000 in
set_option maxHeartbeats 0 in
theorem PySem.Challenge.cw_ringfences_k81_whole_fewest_by_all_subse_holds : PySem.Challenge.rw_ringfences_k81_whole_fewest_by_all_subse.Holds := by
  w_on; o_law
  refine HandSHeadRun.head_any (r := OpenLaw.row PySem.Challenge.rw_ringfences_k81_whole_fewest_by_all_subse) (q := view (OpenLaw.row PySem.Challenge.rw_ringfences_k81_whole_fewest_by_all_subse).prog [55]) (H := RF.hk) (ob := RF.ob) (M := 3000) (loose := RF.loAll) (d := HandSHeadRun.topDef (OpenLaw.row PySem.Challenge.rw_ringfences_k81_whole_fewest_by_all_subse).prog 55) (kwd := []) RF.ob_eq
    (by kernel_rfl) (fun s => by kernel_rfl) RF.run (by kernel_rfl) (by kernel_rfl) (by kernel_rfl) (by rfl) (by first | assumption | decide +kernel) (by decide +kernel) ⟨rfl, rfl, rfl, rfl, rfl, by decide +kernel⟩ ?hw ?hc
  case hw => w_witness2
  case hc =>
    refine LamX.walk_ofTsE (l := PySem.Challenge.rw_ringfences_k81_whole_fewest_by_all_subse) (n := 63) (k := 16) (x := "_law_script") (CX := fun _ => L2.CX0) rfl (by decide) (by kernel_rfl) ⟨rfl, by decide, by decide⟩ ?F (fun _ _ _ _ _ z => z)
    intro w mg fa h Y G hmg0
    obtain ⟨K, KX, c⟩ := Y
    have hmg : mg ("law" : PySem.Str) = some (.ref fa) := by
      have e : (HandSHeadRun.topDef (OpenLaw.row PySem.Challenge.rw_ringfences_k81_whole_fewest_by_all_subse).prog 55).name = ("law" : PySem.Str) := by kernel_rfl
      rw [← e]
      exact hmg0
    exact ⟨K, KX, RF.law_at KX G hmg c⟩
