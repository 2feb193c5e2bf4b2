import PyProof.Rows.All
import Wide.All
import OpenK.AllK
import Wide.FinOn
import HandS.ForMost
import HandS.ForExc
import HandS.Lambda
import HandS.HeadHook4
import HandS.TupAny
import HandS.IsInst
import HandS.SortInts
import HandS.CallSlots
import HandS.Wide
import HandS.Gcd
import HandS.Rev
import HandS.MakeKw
import HandS.MakeKwOnly
import KE.SortData
import KE.DataMinMax
import PyProof.ConsumeS
import PyProof.SumAny
import HandS.SortKw
import HandS.Comp
import HandS.Zip
import HandS.WordsExc
import KE.GoesEnum
import HandS.Flow
import HandS.Deep
import KE.DataFind
import PyProof.ReprRoads
import HandS.RaiseMore
import HandS.HeadWalk
import HandS.EndTab
import HandS.Style
import PyProof.TupleOfSeq
import HandS.TupMul
import HandS.Nested
import HandS.Star
import HandS.Conv
import HandS.DictComp
import HandS.WordsDict
import HandS.Head0
import HandS.Head1
import HandS.Head2
import HandS.Head3
import HandS.HeadHook1
import HandS.HeadHook2
import HandS.HeadHook3
import KE.KIntText
import KE.KxText
import PySem.Challenge.RW_seathall_k44_votes_for_a_table
section
set_option Elab.async false
set_option linter.all false
set_option maxRecDepth 100000
set_option maxHeartbeats 0
set_option autoImplicit false
namespace DC
abbrev CT : String := "itertools.combinations"
end DC
namespace DL
open PySem PySem.Spec PyProof.Rows L2
def clsB (K : PySem.W.Frag) (C : Str) : Bool := He.eqO (PySem.W.findIn K (.ref (He.ga K C)) "__class__") (some (some (.builtin "object.__class__"))) && (He.eqO (PySem.W.specialIn K (.builtin "object.__class__") "__get__") (some (some (.builtin "getset_descriptor.__get__"))) &&
  (decide (PySem.W.takesIn K (.builtin "object.__class__") = some true) && decide (PySem.W.mroIn K (He.ga K C) (.type "object") = some true)))
end DL
namespace Q
open PySem PySem.Spec PyProof.Rows L2 DL
def top (i : Nat) : Stmt := PySem.Challenge.pw_seathall_k44_votes_for_a_table.main.body.getD i (.Pass ⟨0, 0, 0, 0⟩)
def topM (i j : Nat) : Stmt := (C8.clsBody (top i)).getD j (.Pass ⟨0, 0, 0, 0⟩)
def eqi (a b : Option (Option Value)) : Bool := decide (a = b)
theorem eqi_ok {a b : Option (Option Value)} (h : eqi a b = true) : a = b := of_decide_eq_true h
def dd (x : Str) (i : Nat) : He.DefD := ⟨(x, none), x, x, defArgs (top i), defBody (top i), defScope (top i), [], []⟩
def dm (C : Str) (i j : Nat) : He.DefD := ⟨(C, some "__init__"), "__init__", C ++ ".__init__", defArgs (topM i j), defBody (topM i j), defScope (topM i j), [], []⟩
def tf : List He.Defn := [("wrong_number", none)]
def fn : List He.DefD := [dd "is_whole" 9, dd "is_tuple_of" 11, dd "is_row" 12, dd "lowest" 14, dd "is_less" 15, dd "are_enough" 25, dd "parts_of" 30, dd "check_poll" 31, dd "divisor" 34, dd "does_ask" 36, dd "_law_pool" 47, dd "_law_take" 48, dd "_law_results" 52, dd "_law_ways" 53, dd "is_between" 10, dd "check_asked" 37, dd "votes_at" 40, dd "least_price" 41, dd "_law_of" 49, dd "is_seats" 23, dd "is_rule" 24, dd "is_table" 32, dd "needed_by" 42, dd "_law_rule" 50, dd "first_wrong" 13, dd "check_seats" 27, dd "check_rule" 28, dd "check_table" 33, dd "more_by" 43, dd "_law_poll" 51, dd "wrong_number" 21, dd "votes_for_by" 44, dd "are_votes" 22, dd "votes_for" 45, dd "check_votes" 26, dm "Poll" 29 0, dd "_law_right" 54, dd "law" 55]
def fa : List He.Fa := [.glo "is_whole", .glo "is_tuple_of", .glo "is_row", .glo "lowest", .glo "is_less", .glo "are_enough", .glo "parts_of", .glo "check_poll", .glo "divisor", .glo "does_ask", .glo "_law_pool", .glo "_law_take", .glo "_law_results", .glo "_law_ways", .glo "is_between", .glo "check_asked", .glo "votes_at", .glo "least_price", .glo "_law_of", .glo "is_seats", .glo "is_rule", .glo "is_table", .glo "needed_by", .glo "_law_rule", .glo "first_wrong", .glo "check_seats", .glo "check_rule", .glo "check_table", .glo "more_by", .glo "_law_poll", .glo "wrong_number", .glo "votes_for_by", .glo "are_votes", .glo "votes_for", .glo "check_votes", .mkr "Poll", .glo "_law_right", .glo "law", .free "int", .free "isinstance", .free "bool", .free "tuple", .free "len", .cls "Poll", .glo "Poll", .noat "Poll" "votes", .noat "Poll" "seats", .noat "Poll" "rule", .free "sum", .free "abs", .free "divmod", .free "range", .free "max", .free "sorted", .free "zip", .int "MOST_VOTES" 999, .int "MOST_SEATS" 15, .int "MOST_FIRST" 9, .free "all", .free "enumerate", .int "MOST_MORE" 99999, .int "MOST_PARTIES" 6, .free "any", .free "repr", .free "min", .free "wrong_line", .free "wrong_sum", .free "wrong_list", .free "wrong_name"]
abbrev R : PySem.W.OpenRow := PySem.W.OpenLaw.row PySem.Challenge.rw_seathall_k44_votes_for_a_table
def ex : PySem.W.Frag → Bool := fun K => (eqi (PySem.W.nsIn K mainGlobals "gcd") (some (some (.builtin "math.gcd"))) && (clsB K "Poll" && true))
abbrev hk : PySem.W.Hook := He.hookX 5 fa fn [] tf ex
def ob (s : PySem.W.SharedT) : He.AlX := He.obsX 5 fa fn [] tf ex (HandSHeadRun.getT s)
theorem ob_eq (s : PySem.W.SharedT) : ob s = hk.obs s.abs := He.obsX_eq (HandSHeadRun.getT_eq s)
def loose : List PySem.Str := (["SeatError", "InvalidNumber", "InvalidRule", "InvalidTable", "NotAPoll", "InvalidVotes", "is_whole", "is_between", "is_tuple_of", "is_row", "first_wrong", "lowest", "is_less", "MOST_PARTIES", "MOST_VOTES", "MOST_SEATS", "MOST_FIRST", "wrong_number", "are_votes", "is_seats", "is_rule", "are_enough", "check_votes", "check_seats", "check_rule", "Poll", "parts_of", "check_poll", "is_table", "check_table"] : List PySem.Str) ++ (["divisor", "does_ask", "check_asked", "MOST_MORE", "votes_at", "least_price", "needed_by", "more_by", "votes_for_by", "votes_for", "_law_pool", "_law_take", "_law_of", "_law_rule", "_law_poll", "_law_results", "_law_ways", "_law_right"] : List PySem.Str)
abbrev qv : Program := PySem.W.view R.prog [0, 55]
theorem run (w : World) : HandSHeadRun.RunEqI R qv hk ob 20000 loose w := by
  unfold HandSHeadRun.RunEqI
  kernel_rfl
end Q

end

section
set_option Elab.async false
set_option linter.all false
set_option maxRecDepth 100000
set_option maxHeartbeats 4000000
set_option autoImplicit false
/-! A layer of plain data over the hand layer: every value of the program is a datum D, what changes stands in a store; every expression and statement is a plain function of slots and store. -/
namespace DL
open PySem PySem.Spec PyProof.Rows L2

/-! ### data -/
/-- a lambda's text -/
structure LamT where
  qual : Str
  params : Arguments
  body : Expr
  scope : Scope
inductive D where
  | non | bl (b : Bool) | int (i : Int) | str (x : Str)
  | tup (ds : List D) | lst (ds : List D) | kls (ds : List D)
  | obj (C : Str) (ns : List Str) (ds : List D)
  | cel (n : Nat) | glo (x : Str) | ty (n : String)
  | ntu (ds : List D)
  | adr (a : Addr)
  | lam (L : LamT)
  deriving Inhabited
inductive Cell where
  | lst (ds : List D)
  | ins (C : Str) (ns : List Str) (ds : List D)
  | dct (ks : List (List Int)) (ds : List D)
abbrev Sto := List Cell
structure Exn where
  C : Str
  ns : List Str
  ds : List D
inductive Res (α : Type) where
  | ok (a : α) (S : Sto) | exn (x : Exn) (S : Sto) | bad
def Res.bind {α β : Type} (r : Res α) (f : α → Sto → Res β) : Res β := match r with
  | .ok a S => f a S
  | .exn x S => .exn x S
  | .bad => .bad
@[simp] theorem bind_ok {α β : Type} (a : α) (S : Sto) (f : α → Sto → Res β) : (Res.ok a S).bind f = f a S := (rfl)
@[simp] theorem bind_exn {α β : Type} (x : Exn) (S : Sto) (f : α → Sto → Res β) : (Res.exn x S : Res α).bind f = .exn x S := (rfl)
@[simp] theorem bind_bad {α β : Type} (f : α → Sto → Res β) : (Res.bad : Res α).bind f = .bad := (rfl)
abbrev Env := List (Option D)
abbrev DEn := Env → Sto → Res D
abbrev DTn := Env → Sto → Res Bool
abbrev DAn := Env → Sto → Res (List D)
abbrev DFn := List D → Sto → Res D

/-! ### how data stand in the heap -/
/-- the object at f is a lambda, its code object at c -/
def LamO (f : Addr) (L : LamT) (c : Addr) : HO := .ext fun h => ∃ (pm ctv : Value), h.get? f = some (PySem.W.kla_obj "<lambda>" L.qual L.params L.body L.scope [] pm c ctv)
theorem lamO_ne {f c : Addr} {L : LamT} (ps : Array Value) : LamO f L c ≠ .tbl ps := fun z => by
  unfold LamO at z
  cases z
/-- no table of code objects -/
abbrev NoT (o : HO) : Prop := ∀ ps : Array Value, o ≠ .tbl ps
/-- the places that have a name; those that are hidden -/
structure Nm where
  ns : List Addr
  hid : List Addr
def Nm.out (ι : Nm) (a : Addr) : Prop := a ∉ ι.ns ∧ a ∉ ι.hid
abbrev Nm.hide (ι : Nm) (p : Addr) : Nm := ⟨ι.ns, p :: ι.hid⟩
abbrev Nm.add (ι : Nm) (p : Addr) : Nm := ⟨ι.ns ++ [p], ι.hid⟩
section
variable (K : PySem.W.Frag) (mg : Str → Option Value)
def KLst (a : Addr) (xs : List V) : Prop := ∃ (o : Obj) (its : Array Value) (n : Nat), K.lookup a = some o ∧ o.cls = .type "list" ∧ o.dict = none ∧ o.data = .seq its n ∧ its.size ≤ sizeLine ∧ Vals xs its.toList
def KTup (a : Addr) (xs : List V) : Prop := ∃ (o : Obj) (its : Array Value) (n : Nat), K.lookup a = some o ∧ o.cls = .type "tuple" ∧ o.data = .seq its n ∧ its.size ≤ sizeLine ∧ Vals xs its.toList
mutual
inductive RepV (ι : Nm) (H : Hp) : V → D → Prop
  | non : RepV ι H .non .non
  | bl (b : Bool) : RepV ι H (.bl b) (.bl b)
  | int (i : Int) : RepV ι H (.int i) (.int i)
  | str (x : Str) : RepV ι H (.str x) (.str x)
  | tup {a : Addr} {vs : List V} {ds : List D} : H a = some (.tup vs) → ι.out a → RepL ι H vs ds → RepV ι H (.ref a) (.tup ds)
  | lst {a : Addr} {vs : List V} {ds : List D} : H a = some (.lst vs) → ι.out a → RepL ι H vs ds → RepV ι H (.ref a) (.lst ds)
  | kls {a : Addr} {vs : List V} {ds : List D} : Rd H a (.lst vs) → ι.out a → RepL ι H vs ds → RepV ι H (.ref a) (.kls ds)
  | klsK {a : Addr} {vs : List V} {ds : List D} : KLst K a vs → RepL ι H vs ds → RepV ι H (.ref a) (.kls ds)
  | obj {a Ca dx : Addr} {C : Str} {ns : List Str} {vs : List V} {ds : List D} : mg C = some (.ref Ca) → H a = some (.ins Ca dx (ns.zip vs)) → ι.out a → vs.length = ns.length → RepL ι H vs ds → RepV ι H (.ref a) (.obj C ns ds)
  | cel {n : Nat} {a : Addr} : ι.ns[n]? = some a → RepV ι H (.ref a) (.cel n)
  | glo {x : Str} {a : Addr} : mg x = some (.ref a) → RepV ι H (.ref a) (.glo x)
  | ty (n : String) : RepV ι H (.ty n) (.ty n)
  | ntu {a : Addr} {o : Obj} {vs : List V} {ds : List D} : o.dict = none → H a = some (.frz o (.tup vs)) → ι.out a → RepL ι H vs ds → RepV ι H (.ref a) (.ntu ds)
  | adr (a : Addr) : RepV ι H (.ref a) (.adr a)
  | lam {f c : Addr} {L : LamT} : H f = some (LamO f L c) → ι.out f → H c = some (LamX.CodeO c L.qual) → ι.out c → RepV ι H (.ref f) (.lam L)
inductive RepL (ι : Nm) (H : Hp) : List V → List D → Prop
  | nil : RepL ι H [] []
  | cons {v : V} {vs : List V} {d : D} {ds : List D} : RepV ι H v d → RepL ι H vs ds → RepL ι H (v :: vs) (d :: ds)
end
end
/-- what is read as a datum may be read so still -/
structure Mo (ι : Nm) (H : Hp) (ι' : Nm) (H' : Hp) : Prop where
  get : ∀ (n : Nat) (a : Addr), ι.ns[n]? = some a → ι'.ns[n]? = some a
  keep : ∀ a o, H a = some o → NoT o → ι.out a → H' a = some o ∧ ι'.out a
/-- what stood stands; the named places go on -/
structure Ext (ι : Nm) (H : Hp) (ι' : Nm) (H' : Hp) : Prop where
  pre : ∃ m, ι'.ns = ι.ns ++ m
  hid : ι'.hid = ι.hid
  keep : ∀ a o, H a = some o → NoT o → a ∉ ι.ns → H' a = some o ∧ a ∉ ι'.ns
  trk : ∀ a, H a ≠ none → H' a ≠ none
theorem upd_trk {H : Hp} {p a : Addr} {o : HO} (h : H a ≠ none) : upd H p o a ≠ none := by
  by_cases z : a = p
  · rw [z, upd_same]
    simp
  · rw [upd_ne z]
    exact h
theorem Ext.refl (ι : Nm) (H : Hp) : Ext ι H ι H := ⟨⟨[], (List.append_nil ι.ns).symm⟩, rfl, fun _ _ h _ n => ⟨h, n⟩, fun _ h => h⟩
theorem Ext.trans {ι ι1 ι2 : Nm} {H H1 H2 : Hp} (a : Ext ι H ι1 H1) (b : Ext ι1 H1 ι2 H2) : Ext ι H ι2 H2 := by
  obtain ⟨m, e⟩ := a.pre
  obtain ⟨m', e'⟩ := b.pre
  refine ⟨⟨m ++ m', by rw [e', e, List.append_assoc]⟩, b.hid.trans a.hid, fun c o h t n => ?_, fun c h => b.trk c (a.trk c h)⟩
  obtain ⟨h1, n1⟩ := a.keep c o h t n
  exact b.keep c o h1 t n1
theorem Ext.get {ι ι' : Nm} {H H' : Hp} (x : Ext ι H ι' H') {n : Nat} {a : Addr} (h : ι.ns[n]? = some a) : ι'.ns[n]? = some a := by
  obtain ⟨m, e⟩ := x.pre
  rw [e, List.getElem?_append_left (List.getElem?_eq_some_iff.mp h).1]
  exact h
theorem Ext.mo {ι ι' : Nm} {H H' : Hp} (x : Ext ι H ι' H') : Mo ι H ι' H' := ⟨fun _ _ h => x.get h, fun a o h t n => ⟨(x.keep a o h t n.1).1, (x.keep a o h t n.1).2, by rw [x.hid]; exact n.2⟩⟩
/-- a new tracked thing -/
theorem Ext.new {ι : Nm} {H : Hp} {p : Addr} {o : HO} (h : H p = none) : Ext ι H ι (upd H p o) :=
  ⟨⟨[], (List.append_nil ι.ns).symm⟩, rfl, fun c u hc _ n => ⟨by rw [upd_ne (ne_of_none hc h)]; exact hc, n⟩, fun _ => upd_trk⟩
/-- a named place written -/
theorem Ext.wr {ι : Nm} {H : Hp} {p : Addr} {o : HO} (h : p ∈ ι.ns) : Ext ι H ι (upd H p o) :=
  ⟨⟨[], (List.append_nil ι.ns).symm⟩, rfl, fun c u hc _ n => ⟨by rw [upd_ne (fun e : c = p => n (by rw [e]; exact h))]; exact hc, n⟩, fun _ => upd_trk⟩
/-- a new thing is named -/
theorem Ext.name {ι : Nm} {H : Hp} {p : Addr} {o : HO} (h : H p = none) : Ext ι H (ι.add p) (upd H p o) :=
  ⟨⟨[p], rfl⟩, rfl, fun c u hc _ n => ⟨by rw [upd_ne (ne_of_none hc h)]; exact hc, fun hm => by
    rcases List.mem_append.mp hm with z | z
    · exact n z
    · exact ne_of_none hc h (by simpa using z)⟩, fun _ => upd_trk⟩

section
variable {K : PySem.W.Frag} {mg : Str → Option Value} {ι ι' : Nm} {H H' : Hp}
theorem Rd.mo {a : Addr} {u : HO} (x : Mo ι H ι' H') (r : Rd H a u) (n : ι.out a) (t : NoT u := by intro ps z; cases z) : Rd H' a u ∧ ι'.out a := by
  rcases r with r | ⟨o, r⟩
  · exact ⟨.inl (x.keep _ _ r t n).1, (x.keep _ _ r t n).2⟩
  · exact ⟨.inr ⟨o, (x.keep _ _ r (fun ps z => by cases z) n).1⟩, (x.keep _ _ r (fun ps z => by cases z) n).2⟩
mutual
theorem RepV.mo (x : Mo ι H ι' H') : ∀ (d : D) (v : V), RepV K mg ι H v d → RepV K mg ι' H' v d
  | .non, _, h => by cases h; exact .non
  | .bl b, _, h => by cases h; exact .bl b
  | .int b, _, h => by cases h; exact .int b
  | .str b, _, h => by cases h; exact .str b
  | .tup ds, _, h => by
    cases h with
    | tup r n l => exact .tup (x.keep _ _ r (fun ps z => by cases z) n).1 (x.keep _ _ r (fun ps z => by cases z) n).2 (RepL.mo x ds _ l)
  | .lst ds, _, h => by
    cases h with
    | lst r n l => exact .lst (x.keep _ _ r (fun ps z => by cases z) n).1 (x.keep _ _ r (fun ps z => by cases z) n).2 (RepL.mo x ds _ l)
  | .kls ds, _, h => by
    cases h with
    | kls r n l => exact .kls (Rd.mo x r n).1 (Rd.mo x r n).2 (RepL.mo x ds _ l)
    | klsK k l => exact .klsK k (RepL.mo x ds _ l)
  | .obj C ns ds, _, h => by
    cases h with
    | obj m r n e l => exact .obj m (x.keep _ _ r (fun ps z => by cases z) n).1 (x.keep _ _ r (fun ps z => by cases z) n).2 e (RepL.mo x ds _ l)
  | .cel n, _, h => by
    cases h with
    | cel e => exact .cel (x.get _ _ e)
  | .glo n, _, h => by
    cases h with
    | glo e => exact .glo e
  | .ty n, _, h => by cases h; exact .ty n
  | .ntu ds, _, h => by
    cases h with
    | ntu z r n l => exact .ntu z (x.keep _ _ r (fun ps z => by cases z) n).1 (x.keep _ _ r (fun ps z => by cases z) n).2 (RepL.mo x ds _ l)
  | .adr a, _, h => by cases h; exact .adr a
  | .lam L, _, h => by
    cases h with
    | lam r n r2 n2 => exact .lam (x.keep _ _ r lamO_ne n).1 (x.keep _ _ r lamO_ne n).2 (x.keep _ _ r2 LamX.codeO_ne n2).1 (x.keep _ _ r2 LamX.codeO_ne n2).2
theorem RepL.mo (x : Mo ι H ι' H') : ∀ (ds : List D) (vs : List V), RepL K mg ι H vs ds → RepL K mg ι' H' vs ds
  | [], _, h => by cases h; exact .nil
  | d :: ds, _, h => by
    cases h with
    | cons a b => exact .cons (RepV.mo x d _ a) (RepL.mo x ds _ b)
end
theorem RepV.ext {d : D} {v : V} (h : RepV K mg ι H v d) (x : Ext ι H ι' H') : RepV K mg ι' H' v d := RepV.mo x.mo d v h
theorem RepL.ext {d : List D} {v : List V} (h : RepL K mg ι H v d) (x : Ext ι H ι' H') : RepL K mg ι' H' v d := RepL.mo x.mo d v h
theorem RepL.length : ∀ {ds : List D} {vs : List V}, RepL K mg ι H vs ds → vs.length = ds.length
  | [], _, h => by cases h; rfl
  | d :: ds, _, h => by
    cases h with
    | cons a b => simp [RepL.length b]
theorem RepL.append : ∀ {ds es : List D} {vs us : List V}, RepL K mg ι H vs ds → RepL K mg ι H us es → RepL K mg ι H (vs ++ us) (ds ++ es)
  | [], _, _, _, h, g => by cases h; exact g
  | d :: ds, _, _, _, h, g => by
    cases h with
    | cons a b => exact .cons a (RepL.append b g)
theorem RepL.get : ∀ {ds : List D} {vs : List V} {i : Nat} {d : D}, RepL K mg ι H vs ds → ds[i]? = some d → ∃ v, vs[i]? = some v ∧ RepV K mg ι H v d
  | [], _, _, _, h, e => by simp at e
  | d :: ds, _, 0, _, h, e => by
    cases h with
    | cons a b => simp at e; subst e; exact ⟨_, rfl, a⟩
  | d :: ds, _, i + 1, _, h, e => by
    cases h with
    | cons a b =>
      obtain ⟨v, h1, h2⟩ := RepL.get (i := i) b (by simpa using e)
      exact ⟨v, by simpa using h1, h2⟩
theorem RepL.getV : ∀ {ds : List D} {vs : List V} {i : Nat} {v : V}, RepL K mg ι H vs ds → vs[i]? = some v → ∃ d, ds[i]? = some d ∧ RepV K mg ι H v d := fun {ds vs i v} h e => by
  have hl := h.length
  have hi := (List.getElem?_eq_some_iff.mp e).1
  obtain ⟨d, hd⟩ : ∃ d, ds[i]? = some d := ⟨ds[i]'(by omega), List.getElem?_eq_getElem (by omega)⟩
  obtain ⟨v', h1, h2⟩ := h.get hd
  rw [e] at h1; cases h1
  exact ⟨d, hd, h2⟩
theorem RepL.set : ∀ {ds : List D} {vs : List V} {d : D} {v : V} (i : Nat), RepL K mg ι H vs ds → RepV K mg ι H v d → RepL K mg ι H (vs.set i v) (ds.set i d)
  | [], _, _, _, _, h, g => by cases h; exact .nil
  | d :: ds, _, _, _, 0, h, g => by
    cases h with
    | cons a b => exact .cons g b
  | d :: ds, _, _, _, i + 1, h, g => by
    cases h with
    | cons a b => exact .cons a (RepL.set i b g)
theorem RepL.take : ∀ {ds : List D} {vs : List V} (n : Nat), RepL K mg ι H vs ds → RepL K mg ι H (vs.take n) (ds.take n)
  | _, _, 0, _ => .nil
  | [], _, n + 1, h => by cases h; exact .nil
  | d :: ds, _, n + 1, h => by
    cases h with
    | cons a b => exact .cons a (RepL.take n b)
theorem RepL.drop : ∀ {ds : List D} {vs : List V} (n : Nat), RepL K mg ι H vs ds → RepL K mg ι H (vs.drop n) (ds.drop n)
  | _, _, 0, h => h
  | [], _, n + 1, h => by cases h; exact .nil
  | d :: ds, _, n + 1, h => by
    cases h with
    | cons a b => exact RepL.drop n b
theorem RepL.reverse : ∀ {ds : List D} {vs : List V}, RepL K mg ι H vs ds → RepL K mg ι H vs.reverse ds.reverse
  | [], _, h => by cases h; exact .nil
  | d :: ds, _, h => by
    cases h with
    | cons a b =>
      rw [List.reverse_cons, List.reverse_cons]
      exact (RepL.reverse b).append (.cons a .nil)
theorem RepL.ints : ∀ {is : List Int} {vs : List V}, RepL K mg ι H vs (is.map D.int) → vs = is.map V.int
  | [], _, h => by cases h; rfl
  | i :: is, _, h => by
    cases h with
    | cons a b =>
      cases a
      rw [RepL.ints b]
      rfl
theorem RepL.bls : ∀ {is : List Bool} {vs : List V}, RepL K mg ι H vs (is.map D.bl) → vs = is.map V.bl
  | [], _, h => by cases h; rfl
  | i :: is, _, h => by
    cases h with
    | cons a b =>
      cases a
      rw [RepL.bls b]
      rfl
theorem RepL.of_ints (is : List Int) : RepL K mg ι H (is.map V.int) (is.map D.int) := by
  induction is with
  | nil => exact .nil
  | cons i is ih => exact .cons (.int i) ih
/-- a tuple, a list by its datum -/
theorem RepV.sqT {v : V} {ds : List D} (h : RepV K mg ι H v (.tup ds)) : ∃ a vs, v = .ref a ∧ SqT K H a vs ∧ RepL K mg ι H vs ds := by
  cases h with
  | tup r n l => exact ⟨_, _, rfl, .inl (.inl r), l⟩
theorem RepV.sqL {v : V} {ds : List D} (h : RepV K mg ι H v (.lst ds)) : ∃ a vs, v = .ref a ∧ H a = some (.lst vs) ∧ RepL K mg ι H vs ds := by
  cases h with
  | lst r n l => exact ⟨_, _, rfl, r, l⟩
theorem RepV.sqK {v : V} {ds : List D} (h : RepV K mg ι H v (.kls ds)) : ∃ a vs, v = .ref a ∧ SqL K H a vs ∧ RepL K mg ι H vs ds := by
  cases h with
  | kls r n l => exact ⟨_, _, rfl, .inl r, l⟩
  | klsK k l => exact ⟨_, _, rfl, .inr k, l⟩
end

/-! ### the store, the slots -/
section
variable (K : PySem.W.Frag) (mg : Str → Option Value)
def CellAt (ι : Nm) (H : Hp) (a : Addr) : Cell → Prop
  | .lst ds => ∃ vs, H a = some (.lst vs) ∧ RepL K mg ι H vs ds
  | .dct ks ds => ∃ vs, ks.length = vs.length ∧ H a = some (.dT ((ks.map fun k => k.map (fun i => (Sum.inl i : L2.Key))).zip vs)) ∧ RepL K mg ι H vs ds
  | .ins C ns ds => ∃ (Ca dx : Addr) (vs : List V), mg C = some (.ref Ca) ∧ H a = some (.ins Ca dx (ns.zip vs)) ∧ vs.length = ns.length ∧ RepL K mg ι H vs ds
/-- the defs that hold a lambda, the lambda's full name -/
def TBL : List (Str × Str) := [("wrong_number", "wrong_number.<locals>.<lambda>"), ("wrong_line", "wrong_line.<locals>.<lambda>"), ("wrong_sum", "wrong_sum.<locals>.<lambda>"), ("wrong_list", "wrong_list.<locals>.<lambda>"), ("wrong_name", "wrong_name.<locals>.<lambda>")]
/-- the table of a def's code objects: what it tells are lambdas' code objects of the name -/
def TabOk (ι : Nm) (H : Hp) (p : Str × Str) : Prop := (He.cT K (p.1, none)).2 ∉ ι.ns ∧ (He.cT K (p.1, none)).2 ∉ ι.hid ∧ ∃ ps : Array Value, H (He.cT K (p.1, none)).2 = some (.tbl ps) ∧ TriplesOk ps.toList ∧
  ∀ (pos : Pos) (cv : Value), codeAmong pos ps.toList = some cv → ∃ c, cv = .ref c ∧ H c = some (LamX.CodeO c p.2) ∧ ι.out c
structure SimS (ι : Nm) (H : Hp) (S : Sto) : Prop where
  len : ι.ns.length = S.length
  nd : ι.ns.Nodup
  at_ : ∀ (n : Nat) (c : Cell) (a : Addr), S[n]? = some c → ι.ns[n]? = some a → CellAt K mg ι H a c
  hid : ∀ a ∈ ι.hid, H a ≠ none ∧ a ∉ ι.ns
  tab : ∀ p ∈ TBL, mg p.1 ≠ none → TabOk K ι H p
  hnt : ∀ a ∈ ι.hid, ∀ vs, H a ≠ some (.tup vs)
structure RepE (ι : Nm) (H : Hp) (σ : L2.St) (env : Env) : Prop where
  len : σ.length = env.length
  at_ : ∀ (i : Nat) (d : D), env[i]? = some (some d) → ∃ v, σ[i]? = some (some v) ∧ RepV K mg ι H v d
def RepX (ι : Nm) (H : Hp) (x : Exn) (cls : Value) (dd : Option Addr) : Prop :=
  ∃ Ca : Addr, cls = .ref Ca ∧ mg x.C = some (.ref Ca) ∧ (x.ns = [] ∨ ∃ d vs, dd = some d ∧ H d = some (.xd (x.ns.zip vs)) ∧ ι.out d ∧ vs.length = x.ns.length ∧ RepL K mg ι H vs x.ds)
end
section
variable {K : PySem.W.Frag} {mg : Str → Option Value} {ι ι' : Nm} {H H' : Hp} {S : Sto} {σ : L2.St} {env : Env}
theorem RepE.ext (x : Ext ι H ι' H') (h : RepE K mg ι H σ env) : RepE K mg ι' H' σ env := ⟨h.len, fun i d e => by
  obtain ⟨v, h1, h2⟩ := h.at_ i d e
  exact ⟨v, h1, h2.ext x⟩⟩
theorem RepE.set {i : Nat} {v : V} {d : D} (h : RepE K mg ι H σ env) (r : RepV K mg ι H v d) : RepE K mg ι H (σ.set i (some v)) (env.set i (some d)) := by
  refine ⟨by rw [List.length_set, List.length_set]; exact h.len, fun j e he => ?_⟩
  by_cases hj : i = j
  · subst hj
    have hi : i < env.length := by
      have := (List.getElem?_eq_some_iff.mp he).1
      rwa [List.length_set] at this
    rw [List.getElem?_set_self hi] at he
    cases he
    exact ⟨v, by rw [List.getElem?_set_self (by rw [h.len]; exact hi)], r⟩
  · rw [List.getElem?_set_ne hj] at he
    obtain ⟨w, h1, h2⟩ := h.at_ j e he
    exact ⟨w, by rw [List.getElem?_set_ne hj]; exact h1, h2⟩
theorem SimS.tracked (h : SimS K mg ι H S) {a : Addr} (m : a ∈ ι.ns) : H a ≠ none := by
  obtain ⟨n, hn⟩ := List.getElem?_of_mem m
  have hl : n < S.length := by rw [← h.len]; exact (List.getElem?_eq_some_iff.mp hn).1
  have hc := h.at_ n S[n] a (List.getElem?_eq_getElem hl) hn
  cases e : S[n] with
  | lst ds =>
    rw [e] at hc
    obtain ⟨vs, q, _⟩ := hc
    rw [q]
    simp
  | ins C ns ds =>
    rw [e] at hc
    obtain ⟨_, _, _, _, q, _⟩ := hc
    rw [q]
    simp
  | dct ks ds =>
    rw [e] at hc
    obtain ⟨_, _, q, _⟩ := hc
    rw [q]
    simp
theorem SimS.fresh (h : SimS K mg ι H S) {p : Addr} (e : H p = none) : ι.out p := ⟨fun m => h.tracked m e, fun m => (h.hid p m).1 e⟩
theorem SimS.outT (h : SimS K mg ι H S) {b : Addr} {vs : List V} (e : H b = some (.tup vs)) : ι.out b := by
  refine ⟨fun m => ?_, fun m => h.hnt b m vs e⟩
  obtain ⟨n, hn⟩ := List.getElem?_of_mem m
  have hl : n < S.length := by rw [← h.len]; exact (List.getElem?_eq_some_iff.mp hn).1
  have hc := h.at_ n S[n] b (List.getElem?_eq_getElem hl) hn
  cases e2 : S[n] with
  | lst ds =>
    rw [e2] at hc
    obtain ⟨us, q, _⟩ := hc
    rw [e] at q
    cases q
  | ins C ns ds =>
    rw [e2] at hc
    obtain ⟨_, _, _, _, q, _⟩ := hc
    rw [e] at q
    cases q
  | dct ks ds =>
    rw [e2] at hc
    obtain ⟨_, _, q, _⟩ := hc
    rw [e] at q
    cases q
theorem CellAt.mo {a : Addr} {c : Cell} (x : Mo ι H ι' H') (k : H' a = H a) (h : CellAt K mg ι H a c) : CellAt K mg ι' H' a c := by
  cases c with
  | lst ds =>
    obtain ⟨vs, q, l⟩ := h
    exact ⟨vs, k.trans q, RepL.mo x _ _ l⟩
  | ins C ns ds =>
    obtain ⟨Ca, dx, vs, m, q, e, l⟩ := h
    exact ⟨Ca, dx, vs, m, k.trans q, e, RepL.mo x _ _ l⟩
  | dct ks ds =>
    obtain ⟨vs, e, q, l⟩ := h
    exact ⟨vs, e, k.trans q, RepL.mo x _ _ l⟩
/-- what was new behind is new ahead -/
theorem SimS.back (h : SimS K mg ι H S) {S' : Sto} (h' : SimS K mg ι' H' S') (x : Ext ι H ι' H') {p : Addr} (e : H' p = none) : H p = none := by
  cases q : H p with
  | none => rfl
  | some o => exact absurd e (x.trk p (by rw [q]; simp))
theorem TabOk.mo {p : Str × Str} (h : TabOk K ι H p) (x : Mo ι H ι' H') (k : H' (He.cT K (p.1, none)).2 = H (He.cT K (p.1, none)).2) (n1 : (He.cT K (p.1, none)).2 ∉ ι'.ns) (n2 : (He.cT K (p.1, none)).2 ∉ ι'.hid) : TabOk K ι' H' p := by
  obtain ⟨_, _, ps, h1, h2, h3⟩ := h
  refine ⟨n1, n2, ps, k.trans h1, h2, fun pos cv hc => ?_⟩
  obtain ⟨c, e, q, n⟩ := h3 pos cv hc
  exact ⟨c, e, (x.keep _ _ q LamX.codeO_ne n).1, (x.keep _ _ q LamX.codeO_ne n).2⟩
theorem TabOk.ne {p : Str × Str} (h : TabOk K ι H p) {a : Addr} (e : H a = none) : (He.cT K (p.1, none)).2 ≠ a := by
  obtain ⟨_, _, ps, h1, _⟩ := h
  exact fun z => by rw [z, e] at h1; cases h1
/-- a new thing beside the store -/
theorem SimS.new {p : Addr} {o : HO} (h : SimS K mg ι H S) (e : H p = none) : SimS K mg ι (upd H p o) S :=
  ⟨h.len, h.nd, fun n c a hc ha => (h.at_ n c a hc ha).mo (Ext.new e).mo (upd_ne (fun z => (h.fresh e).1 (z ▸ List.mem_of_getElem? ha))), fun a ha => ⟨by
    obtain ⟨o', q⟩ := Option.ne_none_iff_exists'.mp (h.hid a ha).1
    rw [upd_ne (ne_of_none q e)]
    exact (h.hid a ha).1, (h.hid a ha).2⟩, fun q hq hm => (h.tab q hq hm).mo (Ext.new e).mo (upd_ne ((h.tab q hq hm).ne e)) (h.tab q hq hm).1 (h.tab q hq hm).2.1, fun a ha => by
    obtain ⟨o', q⟩ := Option.ne_none_iff_exists'.mp (h.hid a ha).1
    rw [upd_ne (ne_of_none q e)]
    exact h.hnt a ha⟩
/-- .. and hidden -/
theorem Mo.hideNew {p : Addr} {o : HO} (e : H p = none) : Mo ι H (ι.hide p) (upd H p o) := ⟨fun _ _ h => h, fun a u h _ n => ⟨by rw [upd_ne (ne_of_none h e)]; exact h, n.1, fun z => by
  rcases List.mem_cons.mp z with z | z
  · exact ne_of_none h e z
  · exact n.2 z⟩⟩
theorem SimS.newHid {p : Addr} {o : HO} (h : SimS K mg ι H S) (e : H p = none) (ht : ∀ vs, o ≠ .tup vs := by intro vs z; cases z) : SimS K mg (ι.hide p) (upd H p o) S :=
  ⟨h.len, h.nd, fun n c a hc ha => (h.at_ n c a hc ha).mo (Mo.hideNew e) (upd_ne (fun z => (h.fresh e).1 (z ▸ List.mem_of_getElem? ha))), fun a ha => by
    rcases List.mem_cons.mp ha with rfl | ha
    · exact ⟨by rw [upd_same]; simp, (h.fresh e).1⟩
    · obtain ⟨o', q⟩ := Option.ne_none_iff_exists'.mp (h.hid a ha).1
      exact ⟨by rw [upd_ne (ne_of_none q e)]; exact (h.hid a ha).1, (h.hid a ha).2⟩, fun q hq hm => (h.tab q hq hm).mo (Mo.hideNew e) (upd_ne ((h.tab q hq hm).ne e)) (h.tab q hq hm).1 (by
      intro z
      rcases List.mem_cons.mp z with z | z
      · exact (h.tab q hq hm).ne e z
      · exact (h.tab q hq hm).2.1 z), fun a ha => by
    rcases List.mem_cons.mp ha with rfl | ha
    · rw [upd_same]
      exact fun vs z => ht vs (Option.some.inj z)
    · obtain ⟨o', q⟩ := Option.ne_none_iff_exists'.mp (h.hid a ha).1
      rw [upd_ne (ne_of_none q e)]
      exact h.hnt a ha⟩
/-- a hidden place written -/
theorem Mo.wrHid {p : Addr} {o : HO} : Mo (ι.hide p) H (ι.hide p) (upd H p o) := ⟨fun _ _ h => h, fun a u h _ n => ⟨by rw [upd_ne (fun z => n.2 (by rw [z]; exact List.mem_cons_self))]; exact h, n⟩⟩
theorem SimS.wrHid {p : Addr} {o : HO} (h : SimS K mg (ι.hide p) H S) (ht : ∀ vs, o ≠ .tup vs := by intro vs z; cases z) : SimS K mg (ι.hide p) (upd H p o) S := by
  have hp := h.hid p List.mem_cons_self
  refine ⟨h.len, h.nd, fun n c a hc ha => (h.at_ n c a hc ha).mo Mo.wrHid (upd_ne (fun z => hp.2 (z ▸ List.mem_of_getElem? ha))), fun a ha => ⟨?_, (h.hid a ha).2⟩, fun q hq hm => (h.tab q hq hm).mo Mo.wrHid (upd_ne (fun z => (h.tab q hq hm).2.1 (by rw [z]; exact List.mem_cons_self))) (h.tab q hq hm).1 (h.tab q hq hm).2.1, fun a ha => ?_⟩
  · by_cases z : a = p
    · rw [z, upd_same]
      simp
    · rw [upd_ne z]
      exact (h.hid a ha).1
  · by_cases z : a = p
    · rw [z, upd_same]
      exact fun vs z => ht vs (Option.some.inj z)
    · rw [upd_ne z]
      exact h.hnt a ha
/-- shown again; named -/
theorem Mo.shown {p : Addr} : Mo (ι.hide p) H ι H := ⟨fun _ _ h => h, fun a u h _ n => ⟨h, n.1, fun z => n.2 (List.mem_cons_of_mem _ z)⟩⟩
theorem Mo.named {p : Addr} : Mo (ι.hide p) H (ι.add p) H := ⟨fun n a h => by
    rw [List.getElem?_append_left (List.getElem?_eq_some_iff.mp h).1]
    exact h, fun a u h _ n => ⟨h, fun z => by
    rcases List.mem_append.mp z with z | z
    · exact n.1 z
    · exact n.2 (by rw [show a = p by simpa using z]; exact List.mem_cons_self), fun z => n.2 (List.mem_cons_of_mem _ z)⟩⟩
theorem SimS.shown {p : Addr} (h : SimS K mg (ι.hide p) H S) : SimS K mg ι H S := ⟨h.len, h.nd, fun n c a hc ha => (h.at_ n c a hc ha).mo Mo.shown rfl, fun a ha => h.hid a (List.mem_cons_of_mem _ ha), fun q hq hm => (h.tab q hq hm).mo Mo.shown rfl (h.tab q hq hm).1 (fun z => (h.tab q hq hm).2.1 (List.mem_cons_of_mem _ z)), fun a ha => h.hnt a (List.mem_cons_of_mem _ ha)⟩
theorem SimS.named {p : Addr} {c : Cell} (h : SimS K mg (ι.hide p) H S) (hn : p ∉ ι.hid) (hc : CellAt K mg (ι.add p) H p c) : SimS K mg (ι.add p) H (S ++ [c]) := by
  have hp := h.hid p List.mem_cons_self
  have hlen : ι.ns.length = S.length := h.len
  refine ⟨by simp [hlen], ?_, fun n c' a h1 h2 => ?_, fun a ha => ⟨(h.hid a (List.mem_cons_of_mem _ ha)).1, fun z => ?_⟩, fun q hq hm => (h.tab q hq hm).mo Mo.named rfl (fun z => ?_) (fun z => (h.tab q hq hm).2.1 (List.mem_cons_of_mem _ z)), fun a ha => h.hnt a (List.mem_cons_of_mem _ ha)⟩
  · rw [List.nodup_append]
    refine ⟨h.nd, by simp, fun x hx y hy => ?_⟩
    have : y = p := by simpa using hy
    subst this
    exact fun z => hp.2 (z ▸ hx)
  · by_cases hn : n < S.length
    · rw [List.getElem?_append_left hn] at h1
      rw [List.getElem?_append_left (by rw [hlen]; exact hn)] at h2
      exact (h.at_ n c' a h1 h2).mo Mo.named rfl
    · have hl : n < (S ++ [c]).length := (List.getElem?_eq_some_iff.mp h1).1
      have e1 : n = S.length := by rw [List.length_append, List.length_singleton] at hl; omega
      subst e1
      rw [List.getElem?_append_right (Nat.le_refl _), Nat.sub_self] at h1
      rw [← hlen, List.getElem?_append_right (Nat.le_refl _), Nat.sub_self] at h2
      cases h1
      cases h2
      exact hc
  · rcases List.mem_append.mp z with z | z
    · exact (h.hid a (List.mem_cons_of_mem _ ha)).2 z
    · exact hn (by rw [← show a = p by simpa using z]; exact ha)
  · rcases List.mem_append.mp z with z | z
    · exact (h.tab q hq hm).1 z
    · exact (h.tab q hq hm).2.1 (by rw [show (He.cT K (q.1, none)).2 = p by simpa using z]; exact List.mem_cons_self)
/-- a thing of the store is written -/
theorem SimS.wr {p : Addr} {o : HO} {c : Cell} {n : Nat} (h : SimS K mg ι H S) (hp : ι.ns[n]? = some p) (hc : CellAt K mg ι (upd H p o) p c) : SimS K mg ι (upd H p o) (S.set n c) := by
  refine ⟨by rw [List.length_set]; exact h.len, h.nd, fun m c' a h1 h2 => ?_, fun a ha => ⟨?_, (h.hid a ha).2⟩, fun q hq hm => (h.tab q hq hm).mo (Ext.wr (List.mem_of_getElem? hp)).mo (upd_ne (fun z => (h.tab q hq hm).1 (by rw [z]; exact List.mem_of_getElem? hp))) (h.tab q hq hm).1 (h.tab q hq hm).2.1, fun a ha => ?_⟩
  · have hn : n < S.length := by rw [← h.len]; exact (List.getElem?_eq_some_iff.mp hp).1
    by_cases hm : n = m
    · subst hm
      rw [List.getElem?_set_self hn] at h1
      cases h1
      rw [hp] at h2
      cases h2
      exact hc
    · rw [List.getElem?_set_ne hm] at h1
      have hne : a ≠ p := by
        rintro rfl
        obtain ⟨i1, e1⟩ := List.getElem?_eq_some_iff.mp hp
        obtain ⟨i2, e2⟩ := List.getElem?_eq_some_iff.mp h2
        exact hm ((List.getElem_inj h.nd).mp (e1.trans e2.symm))
      exact (h.at_ m c' a h1 h2).mo (Ext.wr (List.mem_of_getElem? hp)).mo (upd_ne hne)
  · rw [upd_ne (fun z => (h.hid a ha).2 (by rw [z]; exact List.mem_of_getElem? hp))]
    exact (h.hid a ha).1
  · rw [upd_ne (fun z => (h.hid a ha).2 (by rw [z]; exact List.mem_of_getElem? hp))]
    exact h.hnt a ha
theorem SimS.get {n : Nat} {c : Cell} (h : SimS K mg ι H S) (e : S[n]? = some c) : ∃ a, ι.ns[n]? = some a ∧ CellAt K mg ι H a c := by
  have hl : n < ι.ns.length := by rw [h.len]; exact (List.getElem?_eq_some_iff.mp e).1
  exact ⟨ι.ns[n], List.getElem?_eq_getElem hl, h.at_ n c _ e (List.getElem?_eq_getElem hl)⟩
end
/-- the items of a list, of what stands in the store -/
def listOf (S : Sto) : D → Option (List D)
  | .lst ds => some ds
  | .kls ds => some ds
  | .cel n => match S[n]? with
    | some (.lst ds) => some ds
    | _ => none
  | _ => none
/-- .. of a list or a tuple -/
def seqOf (S : Sto) : D → Option (List D)
  | .tup ds => some ds
  | .ntu ds => some ds
  | d => listOf S d
section
variable {K : PySem.W.Frag} {mg : Str → Option Value} {ι ι' : Nm} {H H' : Hp} {S : Sto}
theorem SimS.list (h : SimS K mg ι H S) {v : V} {d : D} {ds : List D} (r : RepV K mg ι H v d) (e : listOf S d = some ds) : ∃ a vs, v = .ref a ∧ SqL K H a vs ∧ RepL K mg ι H vs ds := by
  cases d with
  | lst es =>
    cases e
    obtain ⟨a, vs, e1, e2, l⟩ := r.sqL
    exact ⟨a, vs, e1, .inl (.inl e2), l⟩
  | kls es =>
    cases e
    exact r.sqK
  | cel n =>
    cases r with
    | cel hn =>
      have e : (match S[n]? with | some (.lst ds) => some ds | _ => none) = some ds := e
      cases q : S[n]? with
      | none => rw [q] at e; cases e
      | some c =>
        rw [q] at e
        cases c with
        | lst es =>
          cases e
          obtain ⟨vs, q1, l⟩ := h.at_ n _ _ q hn
          exact ⟨_, vs, rfl, .inl (.inl q1), l⟩
        | ins _ _ _ => cases e
        | dct _ _ => cases e
  | _ => cases e
theorem SimS.seq (h : SimS K mg ι H S) {v : V} {d : D} {ds : List D} (r : RepV K mg ι H v d) (e : seqOf S d = some ds) : ∃ a vs, v = .ref a ∧ (SqL K H a vs ∨ SqT K H a vs) ∧ RepL K mg ι H vs ds := by
  cases d with
  | tup es =>
    cases e
    obtain ⟨a, vs, e1, e2, l⟩ := r.sqT
    exact ⟨a, vs, e1, .inr e2, l⟩
  | ntu es =>
    cases e
    cases r with
    | ntu z h n l => exact ⟨_, _, rfl, .inr (.inl (.inr ⟨_, h⟩)), l⟩
  | _ =>
    obtain ⟨a, vs, e1, e2, l⟩ := h.list r e
    exact ⟨a, vs, e1, .inl e2, l⟩
end
/-! ### ends -/
abbrev WE := Value → Option Addr → Hp → Prop
section
variable (K : PySem.W.Frag) (mg : Str → Option Value)
/-- what follows a result -/
def Aft {α β : Type} (rep : Nm → Hp → β → α → Prop) (We : WE) (ι : Nm) (H : Hp) (r : Res α) (Q : β → Hp → Prop) : Prop := match r with
  | .ok d S' => ∀ ι' H' v, Ext ι H ι' H' → SimS K mg ι' H' S' → rep ι' H' v d → Q v H'
  | .exn x S' => ∀ ι' H' cls dd, Ext ι H ι' H' → SimS K mg ι' H' S' → RepX K mg ι' H' x cls dd → We cls dd H'
  | .bad => False
def repB : Nm → Hp → Bool → Bool → Prop := fun _ _ a b => a = b
end
section
variable {K : PySem.W.Frag} {mg : Str → Option Value} {ι ι' : Nm} {H H' : Hp} {S : Sto} {σ : L2.St} {env : Env} {We : WE} {α β γ δ : Type}
theorem Aft.ext {rep : Nm → Hp → β → α → Prop} {r : Res α} {Q : β → Hp → Prop} (x : Ext ι H ι' H') (h : Aft K mg rep We ι H r Q) : Aft K mg rep We ι' H' r Q := by
  cases r with
  | ok d S' => exact fun ι2 H2 v y s q => h ι2 H2 v (x.trans y) s q
  | exn e S' => exact fun ι2 H2 c dd y s q => h ι2 H2 c dd (x.trans y) s q
  | bad => exact h
/-- one after another -/
theorem Aft.seq {rep : Nm → Hp → β → α → Prop} {rep2 : Nm → Hp → δ → γ → Prop} {r : Res α} {f : α → Sto → Res γ} {Q : δ → Hp → Prop} {R : β → Hp → Prop} (h : Aft K mg rep2 We ι H (r.bind f) Q)
    (k : ∀ ι1 H1 v d S1, r = .ok d S1 → Ext ι H ι1 H1 → SimS K mg ι1 H1 S1 → rep ι1 H1 v d → Aft K mg rep2 We ι1 H1 (f d S1) Q → R v H1) : Aft K mg rep We ι H r R := by
  cases r with
  | ok d S' => exact fun ι1 H1 v y s q => k ι1 H1 v d S' rfl y s q (Aft.ext y h)
  | exn e S' => exact h
  | bad => exact h
theorem Aft.imp {rep : Nm → Hp → β → α → Prop} {r : Res α} {Q R : β → Hp → Prop} (h : Aft K mg rep We ι H r Q) (k : ∀ v H, Q v H → R v H) : Aft K mg rep We ι H r R := by
  cases r with
  | ok d S' => exact fun ι1 H1 v y s q => k _ _ (h ι1 H1 v y s q)
  | exn e S' => exact h
  | bad => exact h
theorem Aft.done {rep : Nm → Hp → β → α → Prop} {d : α} {v : β} {Q : β → Hp → Prop} (h : Aft K mg rep We ι H (.ok d S) Q) (s : SimS K mg ι H S) (r : rep ι H v d) : Q v H := h ι H v (Ext.refl _ _) s r
end
end DL
end

section
set_option Elab.async false
set_option linter.all false
set_option maxRecDepth 100000
set_option maxHeartbeats 4000000
set_option autoImplicit false
/-! expressions -/
namespace DL
open PySem PySem.Spec PyProof.Rows L2

theorem PE.weak {X : Cx} {e : Expr} {t t' : TE} (h : PE X e t) (k : ∀ σ H Q, t' σ H Q → t σ H Q) : PE X e t' := ⟨fun pins s σ H Q I q => h.run pins s σ H Q I (k σ H Q q)⟩
theorem PT.weak {X : Cx} {e : Expr} {t t' : TT} (h : PT X e t) (k : ∀ σ H Q, t' σ H Q → t σ H Q) : PT X e t' := ⟨fun pins s σ H Q I q => h.run pins s σ H Q I (k σ H Q q)⟩
theorem PW.weak {X : Cx} {e : Expr} {t t' : TT} (h : PW X e t) (k : ∀ σ H Q, t' σ H Q → t σ H Q) : PW X e t' := ⟨fun wh pins s σ H Q I q => h.run wh pins s σ H Q I (k σ H Q q)⟩
theorem PA.weak {X : Cx} {es : List Expr} {t t' : TA} (h : PA X es t) (k : ∀ σ H Q, t' σ H Q → t σ H Q) : PA X es t' := ⟨fun pos pins s σ H Q I q => h.run pos pins s σ H Q I (k σ H Q q)⟩

abbrev LIM : Nat := 16777216
theorem lim_eq : sizeLine = LIM := sizeLine_eq

section
variable (K : PySem.W.Frag) (mg : Str → Option Value) (W : WX)
def tD (c : DEn) : TE := fun σ H Q => ∃ ι env S, SimS K mg ι H S ∧ RepE K mg ι H σ env ∧ Aft K mg (RepV K mg) (fun cls dd H' => W cls dd σ H') ι H (c env S) Q
def tDA (c : DAn) : TA := fun σ H Q => ∃ ι env S, SimS K mg ι H S ∧ RepE K mg ι H σ env ∧ Aft K mg (RepL K mg) (fun cls dd H' => W cls dd σ H') ι H (c env S) Q
def tDT (c : DTn) : TT := fun σ H Q => ∃ ι env S, SimS K mg ι H S ∧ RepE K mg ι H σ env ∧ Aft K mg repB (fun cls dd H' => W cls dd σ H') ι H (c env S) Q
/-- a new list: no one else knows it -/
def AftF (We : WE) (ι : Nm) (H : Hp) (r : Res (List D)) (Q : VK) : Prop := match r with
  | .ok ds S' => ∀ ι' H' p vs, Ext ι H ι' H' → SimS K mg (ι'.hide p) H' S' → H p = none → p ∉ ι'.hid → H' p = some (.lst vs) → RepL K mg (ι'.hide p) H' vs ds → Q (.ref p) H'
  | .exn x S' => ∀ ι' H' cls dd, Ext ι H ι' H' → SimS K mg ι' H' S' → RepX K mg ι' H' x cls dd → We cls dd H'
  | .bad => False
def tDF (c : DAn) : TE := fun σ H Q => ∃ ι env S, SimS K mg ι H S ∧ RepE K mg ι H σ env ∧ AftF K mg (fun cls dd H' => W cls dd σ H') ι H (c env S) Q
end

section
variable {K : PySem.W.Frag} {mg : Str → Option Value} {W : WX} {ι ι' : Nm} {H H' : Hp} {S : Sto} {σ : L2.St} {env : Env} {We : WE} {γ δ : Type}
theorem tD.seq {c : DEn} {f : D → Sto → Res γ} {rep2 : Nm → Hp → δ → γ → Prop} {Q : δ → Hp → Prop} {R : VK} (hS : SimS K mg ι H S) (hE : RepE K mg ι H σ env)
    (h : Aft K mg rep2 (fun cls dd H' => W cls dd σ H') ι H ((c env S).bind f) Q)
    (k : ∀ ι1 H1 v d S1, c env S = .ok d S1 → Ext ι H ι1 H1 → SimS K mg ι1 H1 S1 → RepE K mg ι1 H1 σ env → RepV K mg ι1 H1 v d → Aft K mg rep2 (fun cls dd H' => W cls dd σ H') ι1 H1 (f d S1) Q → R v H1) : tD K mg W c σ H R :=
  ⟨ι, env, S, hS, hE, Aft.seq h fun ι1 H1 v d S1 e x s r q => k ι1 H1 v d S1 e x s (hE.ext x) r q⟩
theorem tDA.seq {c : DAn} {f : List D → Sto → Res γ} {rep2 : Nm → Hp → δ → γ → Prop} {Q : δ → Hp → Prop} {R : List V → Hp → Prop} (hS : SimS K mg ι H S) (hE : RepE K mg ι H σ env)
    (h : Aft K mg rep2 (fun cls dd H' => W cls dd σ H') ι H ((c env S).bind f) Q)
    (k : ∀ ι1 H1 v d S1, c env S = .ok d S1 → Ext ι H ι1 H1 → SimS K mg ι1 H1 S1 → RepE K mg ι1 H1 σ env → RepL K mg ι1 H1 v d → Aft K mg rep2 (fun cls dd H' => W cls dd σ H') ι1 H1 (f d S1) Q → R v H1) : tDA K mg W c σ H R :=
  ⟨ι, env, S, hS, hE, Aft.seq h fun ι1 H1 v d S1 e x s r q => k ι1 H1 v d S1 e x s (hE.ext x) r q⟩
theorem tDT.seq {c : DTn} {f : Bool → Sto → Res γ} {rep2 : Nm → Hp → δ → γ → Prop} {Q : δ → Hp → Prop} {R : Bool → Hp → Prop} (hS : SimS K mg ι H S) (hE : RepE K mg ι H σ env)
    (h : Aft K mg rep2 (fun cls dd H' => W cls dd σ H') ι H ((c env S).bind f) Q)
    (k : ∀ ι1 H1 b S1, c env S = .ok b S1 → Ext ι H ι1 H1 → SimS K mg ι1 H1 S1 → RepE K mg ι1 H1 σ env → Aft K mg rep2 (fun cls dd H' => W cls dd σ H') ι1 H1 (f b S1) Q → R b H1) : tDT K mg W c σ H R :=
  ⟨ι, env, S, hS, hE, Aft.seq h fun ι1 H1 v d S1 e x s r q => by
    have e' : v = d := r
    subst e'
    exact k ι1 H1 v S1 e x s (hE.ext x) q⟩
theorem AftF.ext {r : Res (List D)} {Q : VK} (x : Ext ι H ι' H') (fr : ∀ p, H' p = none → H p = none) (h : AftF K mg We ι H r Q) : AftF K mg We ι' H' r Q := by
  cases r with
  | ok d S' => exact fun ι2 H2 p vs y s n e m l => h ι2 H2 p vs (x.trans y) s (fr p n) e m l
  | exn e S' => exact fun ι2 H2 c dd y s q => h ι2 H2 c dd (x.trans y) s q
  | bad => exact h
end

/-! ### what each expression is, on data -/
def cVar (i : Nat) : DEn := fun env S => match env[i]? with
  | some (some d) => .ok d S
  | _ => .bad
def cK (d : D) : DEn := fun _ S => .ok d S
def cNil : DAn := fun _ S => .ok [] S
def cCons (c : DEn) (r : DAn) : DAn := fun env S => (c env S).bind fun d S1 => (r env S1).bind fun ds S2 => .ok (d :: ds) S2
def cBin (f : D → D → Sto → Res D) (a b : DEn) : DEn := fun env S => (a env S).bind fun x S1 => (b env S1).bind fun y S2 => f x y S2
def cUn (f : D → Sto → Res D) (a : DEn) : DEn := fun env S => (a env S).bind f
def cApp (f : DFn) (a : DAn) : DEn := fun env S => (a env S).bind f
def asB : D → Sto → Res Bool
  | .bl b, S => .ok b S
  | _, _ => .bad
def cTst (a : DEn) : DTn := fun env S => (a env S).bind asB
def cAnd (a b : DEn) : DEn := fun env S => (a env S).bind fun x S1 => (asB x S1).bind fun k S1 => if k = true then b env S1 else .ok (.bl false) S1
def cOr (a b : DEn) : DEn := fun env S => (a env S).bind fun x S1 => (asB x S1).bind fun k S1 => if k = true then .ok (.bl true) S1 else b env S1
def cAndT (a b : DTn) : DTn := fun env S => (a env S).bind fun k S1 => if k = true then b env S1 else .ok false S1
def cOrT (a b : DTn) : DTn := fun env S => (a env S).bind fun k S1 => if k = true then .ok true S1 else b env S1
def cNotT (a : DTn) : DTn := fun env S => (a env S).bind fun k S1 => .ok (!k) S1
def cNot (a : DEn) : DEn := fun env S => (a env S).bind fun x S1 => (asB x S1).bind fun k S1 => .ok (.bl (!k)) S1
def cIf (t : DTn) (a b : DEn) : DEn := fun env S => (t env S).bind fun k S1 => if k = true then a env S1 else b env S1
def cChn (f g : D → D → Sto → Res D) (a b c : DEn) : DEn := fun env S => (a env S).bind fun x S1 => (b env S1).bind fun y S2 => (f x y S2).bind fun z S3 => (asB z S3).bind fun k S3 => if k = true then (c env S3).bind fun w S4 => g y w S4 else .ok (.bl false) S3
def cTup (a : DAn) : DEn := fun env S => (a env S).bind fun ds S1 => if ds.length ≤ LIM then .ok (.tup ds) S1 else .bad
def cLst (a : DAn) : DAn := fun env S => (a env S).bind fun ds S1 => if ds.length ≤ LIM then .ok ds S1 else .bad
/-- a new list, as one that nobody changes; as one of the store -/
def cVal (c : DAn) : DEn := fun env S => (c env S).bind fun ds S1 => .ok (.lst ds) S1
def cBox (c : DAn) : DEn := fun env S => (c env S).bind fun ds S1 => .ok (.cel S1.length) (S1 ++ [.lst ds])

section
variable {X : Cx} {W : WX} {e a b c : Expr} {es rest : List Expr} {pos : Pos} {ca cb cc : DEn} {cs : DAn} {ta tb tc : DTn}
abbrev SE (X : Cx) (W : WX) (e : Expr) (c : DEn) : Prop := PE X e (tD X.K X.mg W c)
abbrev ST (X : Cx) (W : WX) (e : Expr) (c : DTn) : Prop := PT X e (tDT X.K X.mg W c)
abbrev SW (X : Cx) (W : WX) (e : Expr) (c : DTn) : Prop := PW X e (tDT X.K X.mg W c)
abbrev SA (X : Cx) (W : WX) (es : List Expr) (c : DAn) : Prop := PA X es (tDA X.K X.mg W c)
abbrev SF (X : Cx) (W : WX) (e : Expr) (c : DAn) : Prop := PE X e (tDF X.K X.mg W c)

theorem se_var (i : Nat) {x : Str} (hN : X.N[i]? = some x := by rfl) (hv : Vis X.env.scope x := by first | exact Or.inl rfl | exact Or.inr (Or.inl rfl) | exact Or.inr (Or.inr rfl)) (hd : (x == ("__debug__" : Str)) = false := by decide) (hcd : (x == ("__classdict__" : Str)) = false := by decide) : SE X W (.Name x pos) (cVar i) := by
  refine PE.weak (pe_var (i := i) hN hv hd hcd) fun σ H Q h => ?_
  obtain ⟨ι, env, S, hS, hE, q⟩ := h
  unfold cVar at q
  cases e : env[i]? with
  | none => rw [e] at q; exact q.elim
  | some o =>
    rw [e] at q
    cases o with
    | none => exact q.elim
    | some d =>
      obtain ⟨v, h1, r⟩ := hE.at_ i d e
      exact ⟨v, h1, Aft.done q hS r⟩
theorem se_k {v : V} {d : D} (h : PE X e (tC v)) (r : ∀ ι H, RepV X.K X.mg ι H v d) : SE X W e (cK d) := by
  refine PE.weak h fun σ H Q h => ?_
  obtain ⟨ι, env, S, hS, hE, q⟩ := h
  exact Aft.done q hS (r ι H)
theorem se_int {i : Int} {j : Nat} : SE X W (.Constant (.int i) j pos) (cK (.int i)) := se_k pe_int fun _ _ => .int i
theorem se_bl {i : Bool} {j : Nat} : SE X W (.Constant (.bool i) j pos) (cK (.bl i)) := se_k pe_bl fun _ _ => .bl i
theorem se_non {j : Nat} : SE X W (.Constant .none j pos) (cK .non) := se_k pe_non fun _ _ => .non
theorem se_str {i : Str} {j : Nat} : SE X W (.Constant (.str i) j pos) (cK (.str i)) := se_k pe_str fun _ _ => .str i
/-- a module's int, text -/
theorem se_gint {x : Str} {i : Int} (hm : ∃ t, X.mg x = some (.int i t)) (hg : Gl X x := by rfl) (hd : (x == ("__debug__" : Str)) = false := by decide) : SE X W (.Name x pos) (cK (.int i)) := by
  obtain ⟨t, hm⟩ := hm
  exact se_k (pe_glob (v := .int i) hg hm ⟨t, rfl⟩ hd) fun _ _ => .int i
theorem se_gstr {x : Str} {i : Str} (hm : ∃ t, X.mg x = some (.str i t)) (hg : Gl X x := by rfl) (hd : (x == ("__debug__" : Str)) = false := by decide) : SE X W (.Name x pos) (cK (.str i)) := by
  obtain ⟨t, hm⟩ := hm
  exact se_k (pe_glob (v := .str i) hg hm ⟨t, rfl⟩ hd) fun _ _ => .str i
/-- a module's def, class as a value -/
theorem se_glo {x : Str} {f : Addr} (hm : X.mg x = some (.ref f)) (hg : Gl X x := by rfl) (hd : (x == ("__debug__" : Str)) = false := by decide) : SE X W (.Name x pos) (cK (.glo x)) :=
  se_k (pe_glob hg hm (v := .ref f) rfl hd) fun _ _ => .glo hm
/-- a built-in type as a value -/
theorem se_ty {x : Str} {n : String} (hm : X.mg x = none) (hv : bootBuiltins x = some (.type n)) (hg : Gl X x := by rfl) (hn : x ≠ "__name__" := by decide) (hd : (x == ("__debug__" : Str)) = false := by decide) : SE X W (.Name x pos) (cK (.ty n)) :=
  se_k (pe_bltn hg hm hv (v := .ty n) rfl hn hd) fun _ _ => .ty n

theorem sa_nil : SA X W [] cNil := by
  refine PA.weak pa_nil fun σ H Q h => ?_
  obtain ⟨ι, env, S, hS, hE, q⟩ := h
  exact Aft.done q hS .nil
theorem sa_cons (ha : SE X W e ca) (hr : SA X W es cs) (hs : starEach (e :: es) X.env = (false, eval e X.env) :: starEach es X.env := by rfl) : SA X W (e :: es) (cCons ca cs) := by
  refine PA.weak (pa_cons ha hr hs) fun σ H Q h => ?_
  obtain ⟨ι, env, S, hS, hE, q⟩ := h
  refine tD.seq hS hE q fun ι1 H1 v d S1 _ x1 s1 e1 r1 q1 => ?_
  refine tDA.seq s1 e1 q1 fun ι2 H2 vs ds S2 _ x2 s2 e2 r2 q2 => ?_
  exact Aft.done q2 s2 (.cons (r1.ext x2) r2)
/-- an operation on two data -/
def P2 (K : PySem.W.Frag) (mg : Str → Option Value) (r : R2) (f : D → D → Sto → Res D) : Prop :=
  ∀ (ι : Nm) (H : Hp) (S : Sto) (x y : D) (v u : V) (We : WE) (Q : VK), SimS K mg ι H S → RepV K mg ι H v x → RepV K mg ι H u y → Aft K mg (RepV K mg) We ι H (f x y S) Q → r v u H Q
def P1 (K : PySem.W.Frag) (mg : Str → Option Value) (r : V → Hp → VK → Prop) (f : D → Sto → Res D) : Prop :=
  ∀ (ι : Nm) (H : Hp) (S : Sto) (x : D) (v : V) (We : WE) (Q : VK), SimS K mg ι H S → RepV K mg ι H v x → Aft K mg (RepV K mg) We ι H (f x S) Q → r v H Q
def PN (K : PySem.W.Frag) (mg : Str → Option Value) (r : List V → Hp → VK → Prop) (f : DFn) : Prop :=
  ∀ (ι : Nm) (H : Hp) (S : Sto) (xs : List D) (vs : List V) (We : WE) (Q : VK), SimS K mg ι H S → RepL K mg ι H vs xs → Aft K mg (RepV K mg) We ι H (f xs S) Q → r vs H Q
theorem t2 {r : R2} {f : D → D → Sto → Res D} (hp : P2 X.K X.mg r f) {σ : L2.St} {H : Hp} {Q : VK} (h : tD X.K X.mg W (cBin f ca cb) σ H Q) : tOp r (tD X.K X.mg W ca) (tD X.K X.mg W cb) σ H Q := by
  obtain ⟨ι, env, S, hS, hE, q⟩ := h
  refine tD.seq hS hE q fun ι1 H1 v d S1 _ x1 s1 e1 r1 q1 => ?_
  refine tD.seq s1 e1 q1 fun ι2 H2 u d2 S2 _ x2 s2 e2 r2 q2 => ?_
  exact hp ι2 H2 S2 d d2 v u _ Q s2 (r1.ext x2) r2 q2
theorem se_bin {op : Operator} {r : R2} {f : D → D → Sto → Res D} (ho : OpR X (binaryOp op) r) (hp : P2 X.K X.mg r f) (ha : SE X W a ca) (hb : SE X W b cb) : SE X W (.BinOp a op b pos) (cBin f ca cb) :=
  PE.weak (pe_op ho ha hb) fun _ _ _ h => t2 hp h
theorem se_cmp {op : CmpOp} {r : R2} {f : D → D → Sto → Res D} (ho : OpR X (compareOp op) r) (hp : P2 X.K X.mg r f) (ha : SE X W a ca) (hb : SE X W b cb) (hm : behindInMarks op b = false := by first | exact nomark _ | with_unfolding_all rfl) : SE X W (.Compare a [op] [b] pos) (cBin f ca cb) :=
  PE.weak (pe_cmpR ho ha hb hm) fun _ _ _ h => t2 hp h
theorem tDT_tst {c : DEn} {σ : L2.St} {H : Hp} {Q : Bool → Hp → Prop} (h : tDT X.K X.mg W (cTst c) σ H Q) : tD X.K X.mg W c σ H fun x H' => ∃ k, x = .bl k ∧ Q k H' := by
  obtain ⟨ι, env, S, hS, hE, q⟩ := h
  refine tD.seq hS hE q fun ι1 H1 v d S1 _ x1 s1 e1 r1 q1 => ?_
  cases d with
  | bl k =>
    cases r1
    exact ⟨k, rfl, Aft.done q1 s1 rfl⟩
  | _ => exact q1.elim
theorem st_cmp {op : CmpOp} {r : R2} {f : D → D → Sto → Res D} (ho : OpR X (compareOp op) r) (hp : P2 X.K X.mg r f) (ha : SE X W a ca) (hb : SE X W b cb) (hm : behindInMarks op b = false := by first | exact nomark _ | with_unfolding_all rfl) : ST X W (.Compare a [op] [b] pos) (cTst (cBin f ca cb)) :=
  PT.weak (pt_cmpR ho ha hb hm) fun _ _ _ h => t2 hp (tDT_tst h)
theorem st_val (ha : SE X W a ca) (he : ∀ whole, PySem.isTrue a X.env whole = (do let v ← whole; standAt a.pos; holding [v] (truthy v)) := by intro _; rfl) : ST X W a (cTst ca) :=
  PT.weak (pt_val ha he) fun _ _ _ h => tDT_tst h
theorem se_un {op : UnaryOp} {r : V → Hp → VK → Prop} {f : D → Sto → Res D} (ho : UnR X (unaryOp op) r) (hp : P1 X.K X.mg r f) (ha : SE X W a ca) : SE X W (.UnaryOp op a pos) (cUn f ca) := by
  refine PE.weak (pe_un ho ha) fun σ H Q h => ?_
  obtain ⟨ι, env, S, hS, hE, q⟩ := h
  refine tD.seq hS hE q fun ι1 H1 v d S1 _ x1 s1 e1 r1 q1 => ?_
  exact hp ι1 H1 S1 d v _ Q s1 r1 q1
theorem tChn {r r' : R2} {f g : D → D → Sto → Res D} (hp : P2 X.K X.mg r f) (hp' : P2 X.K X.mg r' g) {σ : L2.St} {H : Hp} {Q : VK} (h : tD X.K X.mg W (cChn f g ca cb cc) σ H Q) : tChain r r' (tD X.K X.mg W ca) (tD X.K X.mg W cb) (tD X.K X.mg W cc) σ H Q := by
  obtain ⟨ι, env, S, hS, hE, q⟩ := h
  refine tD.seq hS hE q fun ι1 H1 v d S1 _ x1 s1 e1 r1 q1 => ?_
  refine tD.seq s1 e1 q1 fun ι2 H2 u d2 S2 _ x2 s2 e2 r2 q2 => ?_
  refine hp ι2 H2 S2 d d2 v u (fun cls dd H' => W cls dd σ H') _ s2 (r1.ext x2) r2 (Aft.seq q2 fun ι3 H3 z dz S3 _ x3 s3 r3 q3 => ?_)
  cases dz with
  | bl k =>
    cases r3
    refine ⟨k, rfl, ?_⟩
    have q3 : Aft X.K X.mg (RepV X.K X.mg) (fun cls dd H' => W cls dd σ H') ι3 H3 (if k = true then (cc env S3).bind fun w S4 => g d2 w S4 else .ok (.bl false) S3) Q := q3
    cases k with
    | false =>
      rw [if_neg Bool.false_ne_true] at q3 ⊢
      exact Aft.done q3 s3 (.bl false)
    | true =>
      rw [if_pos rfl] at q3 ⊢
      refine tD.seq s3 (e2.ext x3) q3 fun ι4 H4 w d4 S4 _ x4 s4 e4 r4 q4 => ?_
      exact hp' ι4 H4 S4 d2 d4 u w _ Q s4 ((r2.ext x3).ext x4) r4 q4
  | _ => exact q3.elim
theorem se_chn {op op' : CmpOp} {r r' : R2} {f g : D → D → Sto → Res D} (ho : OpR X (compareOp op) r) (ho' : OpR X (compareOp op') r') (hp : P2 X.K X.mg r f) (hp' : P2 X.K X.mg r' g) (ha : SE X W a ca) (hb : SE X W b cb) (hc : SE X W c cc)
    (hm : lastMarks [op, op'] [b, c] = false := by with_unfolding_all rfl) : SE X W (.Compare a [op, op'] [b, c] pos) (cChn f g ca cb cc) := PE.weak (pe_chain ho ho' ha hb hc hm) fun _ _ _ h => tChn hp hp' h
theorem st_chn {op op' : CmpOp} {r r' : R2} {f g : D → D → Sto → Res D} (ho : OpR X (compareOp op) r) (ho' : OpR X (compareOp op') r') (hp : P2 X.K X.mg r f) (hp' : P2 X.K X.mg r' g) (ha : SE X W a ca) (hb : SE X W b cb) (hc : SE X W c cc)
    (hm : lastMarks [op, op'] [b, c] = false := by with_unfolding_all rfl) : ST X W (.Compare a [op, op'] [b, c] pos) (cTst (cChn f g ca cb cc)) := PT.weak (pt_chain ho ho' ha hb hc hm) fun _ _ _ h => tChn hp hp' (tDT_tst h)

theorem se_one {op : PySem.BoolOp} (h : SE X W a ca) : SE X W (.BoolOp op [a] pos) ca := pe_one h
theorem se_and (ha : SE X W a ca) (hb : SE X W (.BoolOp .And (b :: rest) pos) cb) : SE X W (.BoolOp .And (a :: b :: rest) pos) (cAnd ca cb) := by
  refine PE.weak (pe_and ha hb) fun σ H Q h => ?_
  obtain ⟨ι, env, S, hS, hE, q⟩ := h
  refine tD.seq hS hE q fun ι1 H1 v d S1 _ x1 s1 e1 r1 q1 => ?_
  cases d with
  | bl k =>
    cases r1
    refine ⟨k, rfl, ?_⟩
    have q1 : Aft X.K X.mg (RepV X.K X.mg) (fun cls dd H' => W cls dd σ H') ι1 H1 (if k = true then cb env S1 else .ok (.bl false) S1) Q := q1
    cases k with
    | false =>
      rw [if_neg Bool.false_ne_true] at q1 ⊢
      exact Aft.done q1 s1 (.bl false)
    | true =>
      rw [if_pos rfl] at q1 ⊢
      exact ⟨ι1, env, S1, s1, e1, q1⟩
  | _ => exact q1.elim
theorem se_or (ha : SE X W a ca) (hb : SE X W (.BoolOp .Or (b :: rest) pos) cb) : SE X W (.BoolOp .Or (a :: b :: rest) pos) (cOr ca cb) := by
  refine PE.weak (pe_or ha hb) fun σ H Q h => ?_
  obtain ⟨ι, env, S, hS, hE, q⟩ := h
  refine tD.seq hS hE q fun ι1 H1 v d S1 _ x1 s1 e1 r1 q1 => ?_
  cases d with
  | bl k =>
    cases r1
    refine ⟨k, rfl, ?_⟩
    have q1 : Aft X.K X.mg (RepV X.K X.mg) (fun cls dd H' => W cls dd σ H') ι1 H1 (if k = true then .ok (.bl true) S1 else cb env S1) Q := q1
    cases k with
    | true =>
      rw [if_pos rfl] at q1 ⊢
      exact Aft.done q1 s1 (.bl true)
    | false =>
      rw [if_neg Bool.false_ne_true] at q1 ⊢
      exact ⟨ι1, env, S1, s1, e1, q1⟩
  | _ => exact q1.elim
theorem se_not (ha : SE X W a ca) : SE X W (.UnaryOp .Not a pos) (cNot ca) := by
  refine PE.weak (pe_not ha) fun σ H Q h => ?_
  obtain ⟨ι, env, S, hS, hE, q⟩ := h
  refine tD.seq hS hE q fun ι1 H1 v d S1 _ x1 s1 e1 r1 q1 => ?_
  cases d with
  | bl k =>
    cases r1
    exact ⟨k, rfl, Aft.done q1 s1 (.bl _)⟩
  | _ => exact q1.elim
theorem sw_and1 (ha : ST X W a ta) : SW X W (.BoolOp .And [a] pos) ta := pw_and1 ha
theorem sw_or1 (ha : ST X W a ta) : SW X W (.BoolOp .Or [a] pos) ta := pw_or1 ha
theorem sw_and (ha : ST X W a ta) (hb : SW X W (.BoolOp .And (b :: rest) pos) tb) : SW X W (.BoolOp .And (a :: b :: rest) pos) (cAndT ta tb) := by
  refine PW.weak (pw_and ha hb) fun σ H Q h => ?_
  obtain ⟨ι, env, S, hS, hE, q⟩ := h
  refine tDT.seq hS hE q fun ι1 H1 k S1 _ x1 s1 e1 q1 => ?_
  cases k with
  | false =>
    rw [if_neg Bool.false_ne_true] at q1 ⊢
    exact Aft.done q1 s1 rfl
  | true =>
    rw [if_pos rfl] at q1 ⊢
    exact ⟨ι1, env, S1, s1, e1, q1⟩
theorem sw_or (ha : ST X W a ta) (hb : SW X W (.BoolOp .Or (b :: rest) pos) tb) : SW X W (.BoolOp .Or (a :: b :: rest) pos) (cOrT ta tb) := by
  refine PW.weak (pw_or ha hb) fun σ H Q h => ?_
  obtain ⟨ι, env, S, hS, hE, q⟩ := h
  refine tDT.seq hS hE q fun ι1 H1 k S1 _ x1 s1 e1 q1 => ?_
  cases k with
  | true =>
    rw [if_pos rfl] at q1 ⊢
    exact Aft.done q1 s1 rfl
  | false =>
    rw [if_neg Bool.false_ne_true] at q1 ⊢
    exact ⟨ι1, env, S1, s1, e1, q1⟩
theorem st_w (h : SW X W a ta) : ST X W a ta := PW.pt h
theorem st_not (ha : ST X W a ta) : ST X W (.UnaryOp .Not a pos) (cNotT ta) := by
  refine PT.weak (pt_not ha) fun σ H Q h => ?_
  obtain ⟨ι, env, S, hS, hE, q⟩ := h
  refine tDT.seq hS hE q fun ι1 H1 k S1 _ x1 s1 e1 q1 => ?_
  exact Aft.done q1 s1 rfl
theorem se_if (hc : ST X W c tc) (ha : SE X W a ca) (hb : SE X W b cb) : SE X W (.IfExp c a b pos) (cIf tc ca cb) := by
  refine PE.weak (pe_ifExp hc ha hb) fun σ H Q h => ?_
  obtain ⟨ι, env, S, hS, hE, q⟩ := h
  refine tDT.seq hS hE q fun ι1 H1 k S1 _ x1 s1 e1 q1 => ?_
  cases k with
  | true =>
    rw [if_pos rfl] at q1 ⊢
    exact ⟨ι1, env, S1, s1, e1, q1⟩
  | false =>
    rw [if_neg Bool.false_ne_true] at q1 ⊢
    exact ⟨ι1, env, S1, s1, e1, q1⟩
theorem se_tup {j : Nat} (h : SA X W es cs) : SE X W (.Tuple es j pos) (cTup cs) := by
  refine PE.weak (pe_tup h) fun σ H Q h => ?_
  obtain ⟨ι, env, S, hS, hE, q⟩ := h
  refine tDA.seq hS hE q fun ι1 H1 vs ds S1 _ x1 s1 e1 r1 q1 => ?_
  split at q1
  · rename_i hl
    refine ⟨by rw [r1.length, lim_eq]; exact hl, fun p hp => ?_⟩
    refine q1 ι1 _ _ (Ext.new hp) (s1.new hp) (.tup upd_same (s1.fresh hp) (r1.ext (Ext.new hp)))
  · exact q1.elim
theorem sf_lst (h : SA X W es cs) : SF X W (.List es pos) (cLst cs) := by
  refine PE.weak (pe_lst h) fun σ H Q h => ?_
  obtain ⟨ι, env, S, hS, hE, q⟩ := h
  refine ⟨ι, env, S, hS, hE, ?_⟩
  have q : AftF X.K X.mg (fun cls dd H' => W cls dd σ H') ι H ((cs env S).bind fun ds S1 => if ds.length ≤ LIM then .ok ds S1 else .bad) Q := q
  cases hr : cs env S with
  | bad => rw [hr] at q; exact q
  | exn x S' => rw [hr] at q; exact q
  | ok ds S1 =>
    rw [hr] at q
    intro ι1 H1 vs x1 s1 r1
    rw [bind_ok] at q
    split at q
    · rename_i hl
      refine ⟨by rw [r1.length, lim_eq]; exact hl, fun p hp => ?_⟩
      exact q ι1 _ p vs (x1.trans (Ext.new hp)) (s1.newHid hp) (hS.back s1 x1 hp) (s1.fresh hp).2 upd_same (RepL.mo (Mo.hideNew hp) _ _ r1)
    · exact q.elim
theorem se_val (h : SF X W e cs) : SE X W e (cVal cs) := by
  refine PE.weak h fun σ H Q h => ?_
  obtain ⟨ι, env, S, hS, hE, q⟩ := h
  refine ⟨ι, env, S, hS, hE, ?_⟩
  have q : Aft X.K X.mg (RepV X.K X.mg) (fun cls dd H' => W cls dd σ H') ι H ((cs env S).bind fun ds S1 => .ok (.lst ds) S1) Q := q
  cases hr : cs env S with
  | bad => rw [hr] at q; exact q
  | exn x S' => rw [hr] at q; exact q
  | ok ds S1 =>
    rw [hr] at q
    exact fun ι1 H1 p vs x1 s1 n m e l => q ι1 H1 _ x1 s1.shown (.lst e ⟨(s1.hid p List.mem_cons_self).2, m⟩ (RepL.mo Mo.shown _ _ l))
/-- naming what was new -/
theorem Ext.named {K : PySem.W.Frag} {mg : Str → Option Value} {ι ι' : Nm} {H H' : Hp} {p : Addr} (x : Ext ι H ι' H') (n : H p = none) : Ext ι H (ι'.add p) H' := by
  obtain ⟨m, e⟩ := x.pre
  refine ⟨⟨m ++ [p], by show ι'.ns ++ [p] = _; rw [e, List.append_assoc]⟩, x.hid, fun a o h t k => ⟨(x.keep a o h t k).1, fun z => ?_⟩, x.trk⟩
  rcases List.mem_append.mp z with z | z
  · exact (x.keep a o h t k).2 z
  · exact ne_of_none h n (by simpa using z)
theorem se_box (h : SF X W e cs) : SE X W e (cBox cs) := by
  refine PE.weak h fun σ H Q h => ?_
  obtain ⟨ι, env, S, hS, hE, q⟩ := h
  refine ⟨ι, env, S, hS, hE, ?_⟩
  have q : Aft X.K X.mg (RepV X.K X.mg) (fun cls dd H' => W cls dd σ H') ι H ((cs env S).bind fun ds S1 => .ok (.cel S1.length) (S1 ++ [.lst ds])) Q := q
  cases hr : cs env S with
  | bad => rw [hr] at q; exact q
  | exn x S' => rw [hr] at q; exact q
  | ok ds S1 =>
    rw [hr] at q
    refine fun ι1 H1 p vs x1 s1 n m e l => q (ι1.add p) H1 _ (Ext.named (K := X.K) (mg := X.mg) x1 n) (s1.named m ⟨vs, e, RepL.mo Mo.named _ _ l⟩) (.cel ?_)
    have hl : ι1.ns.length = S1.length := s1.len
    show (ι1.ns ++ [p])[S1.length]? = some p
    rw [← hl, List.getElem?_append_right (Nat.le_refl _), Nat.sub_self]
    rfl
end
end DL
end

section
set_option Elab.async false
set_option linter.all false
set_option maxRecDepth 100000
set_option maxHeartbeats 4000000
set_option autoImplicit false
/-! statements, targets, defs -/
namespace DL
open PySem PySem.Spec PyProof.Rows L2

inductive RS where
  | nx (env : Env) (S : Sto) | ret (d : D) (S : Sto) | brk (env : Env) (S : Sto) | cnt (env : Env) (S : Sto) | exn (x : Exn) (env : Env) (S : Sto) | bad
abbrev DSn := Env → Sto → RS
def RS.seq (r : RS) (f : DSn) : RS := match r with
  | .nx env S => f env S
  | .ret d S => .ret d S
  | .brk env S => .brk env S
  | .cnt env S => .cnt env S
  | .exn x env S => .exn x env S
  | .bad => .bad
@[simp] theorem seq_nx (env : Env) (S : Sto) (f : DSn) : (RS.nx env S).seq f = f env S := (rfl)
@[simp] theorem seq_ret (d : D) (S : Sto) (f : DSn) : (RS.ret d S).seq f = .ret d S := (rfl)
@[simp] theorem seq_brk (d : Env) (S : Sto) (f : DSn) : (RS.brk d S).seq f = .brk d S := (rfl)
@[simp] theorem seq_cnt (d : Env) (S : Sto) (f : DSn) : (RS.cnt d S).seq f = .cnt d S := (rfl)
@[simp] theorem seq_exn (x : Exn) (d : Env) (S : Sto) (f : DSn) : (RS.exn x d S).seq f = .exn x d S := (rfl)
@[simp] theorem seq_bad (f : DSn) : (RS.bad).seq f = .bad := (rfl)
/-- an expression's result, then a statement's -/
def Res.th {α : Type} (r : Res α) (env : Env) (f : α → Sto → RS) : RS := match r with
  | .ok a S => f a S
  | .exn x S => .exn x env S
  | .bad => .bad
@[simp] theorem th_ok {α : Type} (a : α) (S : Sto) (env : Env) (f : α → Sto → RS) : (Res.ok a S).th env f = f a S := (rfl)
@[simp] theorem th_exn {α : Type} (x : Exn) (S : Sto) (env : Env) (f : α → Sto → RS) : (Res.exn x S : Res α).th env f = .exn x env S := (rfl)
@[simp] theorem th_bad {α : Type} (env : Env) (f : α → Sto → RS) : (Res.bad : Res α).th env f = .bad := (rfl)

section
variable (K : PySem.W.Frag) (mg : Str → Option Value) (W : WX)
def AftS (ι : Nm) (H : Hp) (r : RS) (E : Ends) : Prop := match r with
  | .nx env S' => ∀ ι' H' σ', Ext ι H ι' H' → SimS K mg ι' H' S' → RepE K mg ι' H' σ' env → E.nx σ' H'
  | .ret d S' => ∀ ι' H' v, Ext ι H ι' H' → SimS K mg ι' H' S' → RepV K mg ι' H' v d → E.rt v H'
  | .brk env S' => ∀ ι' H' σ', Ext ι H ι' H' → SimS K mg ι' H' S' → RepE K mg ι' H' σ' env → E.bk σ' H'
  | .cnt env S' => ∀ ι' H' σ', Ext ι H ι' H' → SimS K mg ι' H' S' → RepE K mg ι' H' σ' env → E.ct σ' H'
  | .exn x env S' => ∀ ι' H' σ' cls dd, Ext ι H ι' H' → SimS K mg ι' H' S' → RepE K mg ι' H' σ' env → RepX K mg ι' H' x cls dd → W cls dd σ' H'
  | .bad => False
def tDS (c : DSn) : TS := fun E σ H => ∃ ι env S, SimS K mg ι H S ∧ RepE K mg ι H σ env ∧ AftS K mg W ι H (c env S) E
end
section
variable {K : PySem.W.Frag} {mg : Str → Option Value} {W : WX} {ι ι' : Nm} {H H' : Hp} {S : Sto} {σ : L2.St} {env : Env} {E E' : Ends} {α β γ : Type}
theorem AftS.ext {r : RS} (x : Ext ι H ι' H') (h : AftS K mg W ι H r E) : AftS K mg W ι' H' r E := by
  cases r with
  | nx env S' => exact fun ι2 H2 v y s q => h ι2 H2 v (x.trans y) s q
  | ret d S' => exact fun ι2 H2 v y s q => h ι2 H2 v (x.trans y) s q
  | brk env S' => exact fun ι2 H2 v y s q => h ι2 H2 v (x.trans y) s q
  | cnt env S' => exact fun ι2 H2 v y s q => h ι2 H2 v (x.trans y) s q
  | exn e env S' => exact fun ι2 H2 v c dd y s q => h ι2 H2 v c dd (x.trans y) s q
  | bad => exact h
theorem AftS.seq {r : RS} {f : DSn} (h : AftS K mg W ι H (r.seq f) E) (k : ∀ ι1 H1 σ1 env1 S1, r = .nx env1 S1 → Ext ι H ι1 H1 → SimS K mg ι1 H1 S1 → RepE K mg ι1 H1 σ1 env1 → AftS K mg W ι1 H1 (f env1 S1) E → E'.nx σ1 H1)
    (e1 : E'.rt = E.rt) (e2 : E'.bk = E.bk) (e3 : E'.ct = E.ct) : AftS K mg W ι H r E' := by
  cases r with
  | nx env S' => exact fun ι1 H1 σ1 y s q => k ι1 H1 σ1 env S' rfl y s q (AftS.ext y h)
  | ret d S' =>
    have h : AftS K mg W ι H (.ret d S') E := h
    show ∀ ι' H' v, Ext ι H ι' H' → SimS K mg ι' H' S' → RepV K mg ι' H' v d → E'.rt v H'
    rw [e1]
    exact h
  | brk env S' =>
    have h : AftS K mg W ι H (.brk env S') E := h
    show ∀ ι' H' σ', Ext ι H ι' H' → SimS K mg ι' H' S' → RepE K mg ι' H' σ' env → E'.bk σ' H'
    rw [e2]
    exact h
  | cnt env S' =>
    have h : AftS K mg W ι H (.cnt env S') E := h
    show ∀ ι' H' σ', Ext ι H ι' H' → SimS K mg ι' H' S' → RepE K mg ι' H' σ' env → E'.ct σ' H'
    rw [e3]
    exact h
  | exn e env S' => exact h
  | bad => exact h
/-- an expression, then a statement's rest -/
theorem AftS.th {rep : Nm → Hp → β → α → Prop} {r : Res α} {f : α → Sto → RS} {R : β → Hp → Prop} (hE : RepE K mg ι H σ env) (h : AftS K mg W ι H (r.th env f) E)
    (k : ∀ ι1 H1 v d S1, r = .ok d S1 → Ext ι H ι1 H1 → SimS K mg ι1 H1 S1 → rep ι1 H1 v d → AftS K mg W ι1 H1 (f d S1) E → R v H1) : Aft K mg rep (fun cls dd H' => W cls dd σ H') ι H r R := by
  cases r with
  | ok d S' => exact fun ι1 H1 v y s q => k ι1 H1 v d S' rfl y s q (AftS.ext y h)
  | exn e S' => exact fun ι1 H1 c dd y s q => h ι1 H1 σ c dd y s (hE.ext y) q
  | bad => exact h
theorem tD.th {c : DEn} {f : D → Sto → RS} {R : VK} (hS : SimS K mg ι H S) (hE : RepE K mg ι H σ env) (h : AftS K mg W ι H ((c env S).th env f) E)
    (k : ∀ ι1 H1 v d S1, c env S = .ok d S1 → Ext ι H ι1 H1 → SimS K mg ι1 H1 S1 → RepE K mg ι1 H1 σ env → RepV K mg ι1 H1 v d → AftS K mg W ι1 H1 (f d S1) E → R v H1) : tD K mg W c σ H R :=
  ⟨ι, env, S, hS, hE, AftS.th hE h fun ι1 H1 v d S1 e x s r q => k ι1 H1 v d S1 e x s (hE.ext x) r q⟩
theorem tDA.th {c : DAn} {f : List D → Sto → RS} {R : List V → Hp → Prop} (hS : SimS K mg ι H S) (hE : RepE K mg ι H σ env) (h : AftS K mg W ι H ((c env S).th env f) E)
    (k : ∀ ι1 H1 v d S1, c env S = .ok d S1 → Ext ι H ι1 H1 → SimS K mg ι1 H1 S1 → RepE K mg ι1 H1 σ env → RepL K mg ι1 H1 v d → AftS K mg W ι1 H1 (f d S1) E → R v H1) : tDA K mg W c σ H R :=
  ⟨ι, env, S, hS, hE, AftS.th hE h fun ι1 H1 v d S1 e x s r q => k ι1 H1 v d S1 e x s (hE.ext x) r q⟩
theorem tDT.th {c : DTn} {f : Bool → Sto → RS} {R : Bool → Hp → Prop} (hS : SimS K mg ι H S) (hE : RepE K mg ι H σ env) (h : AftS K mg W ι H ((c env S).th env f) E)
    (k : ∀ ι1 H1 b S1, c env S = .ok b S1 → Ext ι H ι1 H1 → SimS K mg ι1 H1 S1 → RepE K mg ι1 H1 σ env → AftS K mg W ι1 H1 (f b S1) E → R b H1) : tDT K mg W c σ H R :=
  ⟨ι, env, S, hS, hE, AftS.th hE h fun ι1 H1 v d S1 e x s r q => by
    have e' : v = d := r
    subst e'
    exact k ι1 H1 v S1 e x s (hE.ext x) q⟩
theorem AftS.nx_ {env' : Env} {σ' : L2.St} (h : AftS K mg W ι H (.nx env' S) E) (s : SimS K mg ι H S) (e : RepE K mg ι H σ' env') : E.nx σ' H := h ι H σ' (Ext.refl _ _) s e
theorem AftS.rt_ {d : D} {v : V} (h : AftS K mg W ι H (.ret d S) E) (s : SimS K mg ι H S) (r : RepV K mg ι H v d) : E.rt v H := h ι H v (Ext.refl _ _) s r
end

/-! ### what each statement is, on data -/
def sNil : DSn := fun env S => .nx env S
def sSeq (a b : DSn) : DSn := fun env S => (a env S).seq b
def sDrop (c : DEn) : DSn := fun env S => (c env S).th env fun _ S1 => .nx env S1
def sRet (c : DEn) : DSn := fun env S => (c env S).th env fun d S1 => .ret d S1
def sRetN : DSn := fun _ S => .ret .non S
def sIf (t : DTn) (a b : DSn) : DSn := fun env S => (t env S).th env fun k S1 => if k = true then a env S1 else b env S1
def sBrk : DSn := fun env S => .brk env S
def sCnt : DSn := fun env S => .cnt env S
/-- a target takes a value -/
abbrev DGn := D → Env → Sto → RS
def gNm (i : Nat) : DGn := fun d env S => .nx (env.set i (some d)) S
abbrev DGs := List D → Env → Sto → RS
def gsNil : DGs := fun ds env S => match ds with
  | [] => .nx env S
  | _ :: _ => .bad
def gsCons (g : DGn) (gs : DGs) : DGs := fun ds env S => match ds with
  | [] => .bad
  | d :: r => (g d env S).seq fun env' S' => gs r env' S'
def gTp (gs : DGs) : DGn := fun d env S => match d with
  | .tup ds => gs ds env S
  | .lst ds => gs ds env S
  | _ => .bad
def sSet (i : Nat) (c : DEn) : DSn := fun env S => (c env S).th env fun d S1 => .nx (env.set i (some d)) S1
/-- what a target may come to -/
def RS.tg (r : RS) : RS := match r with
  | .nx env S => .nx env S
  | .exn x env S => .exn x env S
  | _ => .bad
@[simp] theorem tg_nx (env : Env) (S : Sto) : (RS.nx env S).tg = .nx env S := (rfl)
@[simp] theorem tg_bad : (RS.bad).tg = .bad := (rfl)
def sAsg (c : DEn) (g : DGn) : DSn := fun env S => (c env S).th env fun d S1 => (g d env S1).tg
def sPar (i j : Nat) (c : DAn) : DSn := fun env S => (c env S).th env fun ds S1 => match ds with
  | [x, y] => .nx ((env.set i (some x)).set j (some y)) S1
  | _ => .bad
def sPar3 (i j k : Nat) (c : DAn) : DSn := fun env S => (c env S).th env fun ds S1 => match ds with
  | [x, y, z] => .nx (((env.set i (some x)).set j (some y)).set k (some z)) S1
  | _ => .bad

structure Go (X : Cx) (W : WX) : Prop where
  calm : X.calm = true
  nd : X.N.Nodup
  hp : PassesOwn (model X.prog X.w) X.A X.env X.xe
  tk : Takes X W

theorem PS.weak {X : Cx} {e : Stmt} {t t' : TS} (h : PS X e t) (k : ∀ D σ H, t' D σ H → t D σ H) : PS X e t' := ⟨fun pins s σ H Q I q => h.run pins s σ H Q I (k _ _ _ q)⟩
theorem PSs.weak {X : Cx} {e : List Stmt} {t t' : TS} (h : PSs X e t) (k : ∀ D σ H, t' D σ H → t D σ H) : PSs X e t' := ⟨fun pins s σ H Q I q => h.run pins s σ H Q I (k _ _ _ q)⟩
theorem PG.weak {X : Cx} {e : Expr} {t t' : TG} (h : PG X e t) (k : ∀ v σ H Q, t' v σ H Q → t v σ H Q) : PG X e t' := ⟨fun pins s σ H v u Q I r q => h.run pins s σ H v u Q I r (k _ _ _ _ q)⟩
theorem PGs.weak {X : Cx} {e : List Expr} {t t' : TGs} (h : PGs X e t) (k : ∀ v σ H Q, t' v σ H Q → t v σ H Q) : PGs X e t' := ⟨fun pins s σ H v u Q I r q => h.run pins s σ H v u Q I r (k _ _ _ _ q)⟩
theorem PG.or {X : Cx} {e : Expr} {t t' : TG} (h : PG X e t) (h' : PG X e t') : PG X e (fun v σ H Q => t v σ H Q ∨ t' v σ H Q) := ⟨fun pins s σ H v u Q I r q => by
  rcases q with q | q
  · exact h.run pins s σ H v u Q I r q
  · exact h'.run pins s σ H v u Q I r q⟩

section
variable {X : Cx} {W : WX} {e a b c : Expr} {es : List Expr} {st : Stmt} {rest p q : List Stmt} {pos : Pos} {ce ca cb : DEn} {cs : DAn} {ct : DTn} {s1 s2 : DSn} {g : DGn} {gs : DGs}
abbrev SS (X : Cx) (W : WX) (st : Stmt) (c : DSn) : Prop := PS X st (tDS X.K X.mg W c)
abbrev SSs (X : Cx) (W : WX) (st : List Stmt) (c : DSn) : Prop := PSs X st (tDS X.K X.mg W c)
/-- a target's ends: a wish of what follows -/
def tDG (K : PySem.W.Frag) (mg : Str → Option Value) (W : WX) (g : DGn) : TG := fun v σ H Q => ∃ ι env S d, SimS K mg ι H S ∧ RepE K mg ι H σ env ∧ RepV K mg ι H v d ∧ AftS K mg W ι H (g d env S) { nx := Q, rt := fun _ _ => False }
def tDGs (K : PySem.W.Frag) (mg : Str → Option Value) (W : WX) (g : DGs) : TGs := fun v σ H Q => ∃ ι env S d, SimS K mg ι H S ∧ RepE K mg ι H σ env ∧ RepL K mg ι H v d ∧ AftS K mg W ι H (g d env S) { nx := Q, rt := fun _ _ => False }
abbrev SG (X : Cx) (W : WX) (e : Expr) (g : DGn) : Prop := PG X e (tDG X.K X.mg W g)
abbrev SGs (X : Cx) (W : WX) (e : List Expr) (g : DGs) : Prop := PGs X e (tDGs X.K X.mg W g)

theorem ss_nil : SSs X W [] sNil := PSs.weak pss_nil fun D σ H h => by
  obtain ⟨ι, env, S, hS, hE, q⟩ := h
  exact q.nx_ hS hE
theorem ss_one (h : SS X W st s1) : SSs X W [st] s1 := pss_one h
theorem ss_cons (h : SS X W st s1) (h2 : SSs X W rest s2) : SSs X W (st :: rest) (sSeq s1 s2) := PSs.weak (pss_cons h h2) fun D σ H h => by
  obtain ⟨ι, env, S, hS, hE, q⟩ := h
  exact ⟨ι, env, S, hS, hE, AftS.seq q (fun ι1 H1 σ1 env1 S1 _ x s e q => ⟨ι1, env1, S1, s, e, q⟩) rfl rfl rfl⟩
theorem ss_pass : SS X W (.Pass pos) sNil := PS.weak ps_pass fun D σ H h => by
  obtain ⟨ι, env, S, hS, hE, q⟩ := h
  exact q.nx_ hS hE
theorem ss_brk : SS X W (.Break pos) sBrk := PS.weak ps_break fun D σ H h => by
  obtain ⟨ι, env, S, hS, hE, q⟩ := h
  exact q ι H σ (Ext.refl _ _) hS hE
theorem ss_cnt : SS X W (.Continue pos) sCnt := PS.weak ps_continue fun D σ H h => by
  obtain ⟨ι, env, S, hS, hE, q⟩ := h
  exact q ι H σ (Ext.refl _ _) hS hE
theorem ss_doc {x : Str} {j : Nat} {pos' : Pos} : SS X W (.Expr (.Constant (.str x) j pos) pos') sNil := PS.weak ps_doc fun D σ H h => by
  obtain ⟨ι, env, S, hS, hE, q⟩ := h
  exact q.nx_ hS hE
theorem ss_expr (he : SE X W e ce) (hs : swapsWith e none pos.line X.env = pure false := by rfl) : SS X W (.Expr e pos) (sDrop ce) := PS.weak (ps_expr he hs) fun D σ H h => by
  obtain ⟨ι, env, S, hS, hE, q⟩ := h
  exact tD.th hS hE q fun ι1 H1 v d S1 _ x s e r q => q.nx_ s e
theorem ss_ret (he : SE X W e ce) : SS X W (.Return (some e) pos) (sRet ce) := PS.weak (ps_ret he) fun D σ H h => by
  obtain ⟨ι, env, S, hS, hE, q⟩ := h
  exact tD.th hS hE q fun ι1 H1 v d S1 _ x s e r q => q.rt_ s r
theorem ss_retN : SS X W (.Return none pos) sRetN := PS.weak ps_retN fun D σ H h => by
  obtain ⟨ι, env, S, hS, hE, q⟩ := h
  exact q.rt_ hS .non
theorem ss_if (hc : ST X W c ct) (ha : SSs X W p s1) (hb : SSs X W q s2) : SS X W (.If c p q pos) (sIf ct s1 s2) := PS.weak (ps_if hc ha hb) fun D σ H h => by
  obtain ⟨ι, env, S, hS, hE, q⟩ := h
  refine tDT.th hS hE q fun ι1 H1 k S1 _ x s e q => ?_
  cases k with
  | true =>
    rw [if_pos rfl] at q ⊢
    exact ⟨ι1, env, S1, s, e, q⟩
  | false =>
    rw [if_neg Bool.false_ne_true] at q ⊢
    exact ⟨ι1, env, S1, s, e, q⟩
theorem sg_nm (gX : Go X W) (i : Nat) {x : Str} (hi : X.N[i]? = some x := by rfl) (hx : Loc X.env.scope x := by first | exact Or.inl rfl | exact Or.inr rfl)
    (hf : X.fn x = true ∨ X.env.scope.names.lookup x = some .local := by first | exact .inl rfl | exact .inr rfl) : SG X W (.Name x pos) (gNm i) := PG.weak (pg_name gX.nd hi hx hf) fun v σ H Q h => by
  obtain ⟨ι, env, S, d, hS, hE, hV, q⟩ := h
  exact q.nx_ (σ' := σ.set i (some v)) hS (hE.set hV)
theorem sgs_nil : SGs X W [] gsNil := PGs.weak pgs_nil fun v σ H Q h => by
  obtain ⟨ι, env, S, d, hS, hE, hV, q⟩ := h
  cases d with
  | nil =>
    cases hV
    exact ⟨rfl, q.nx_ hS hE⟩
  | cons _ _ => exact q.elim
theorem sgs_cons (h1 : SG X W e g) (h2 : SGs X W es gs) (hs : (assignEach (e :: es) X.env).map (·.2) = assign e X.env :: (assignEach es X.env).map (·.2) := by rfl) : SGs X W (e :: es) (gsCons g gs) := PGs.weak (pgs_cons h1 h2 hs) fun v σ H Q h => by
  obtain ⟨ι, env, S, d, hS, hE, hV, q⟩ := h
  cases d with
  | nil => exact q.elim
  | cons d ds =>
    cases hV with
    | cons r rs =>
      refine ⟨_, _, rfl, ι, env, S, d, hS, hE, r, AftS.seq (E := { nx := Q, rt := fun _ _ => False }) q (fun ι1 H1 σ1 env1 S1 _ x s e q => ?_) rfl rfl rfl⟩
      exact ⟨ι1, env1, S1, ds, s, e, rs.ext x, q⟩
theorem sg_tp (gX : Go X W) {k : Nat} (h : SGs X W es gs) (n : Nat) (hn : (assignEach es X.env).length = n := by rfl) (hst : (assignEach es X.env).findIdx? (·.1) = none := by rfl)
    (hl : ∀ ds env S, ds.length ≠ n → gs ds env S = .bad) : SG X W (.Tuple es k pos) (gTp gs) := PG.weak (PG.or (pg_tup gX.calm h hn hst) (pg_lst gX.calm h hn hst)) fun v σ H Q h => by
  obtain ⟨ι, env, S, d, hS, hE, hV, q⟩ := h
  cases d with
  | tup ds =>
    obtain ⟨a, vs, rfl, hq, l⟩ := hV.sqT
    refine .inl ⟨a, vs, rfl, hq, ?_, ι, env, S, ds, hS, hE, l, q⟩
    rw [l.length]
    by_cases z : ds.length = n
    · exact z
    · have q : AftS X.K X.mg W ι H (gs ds env S) { nx := Q, rt := fun _ _ => False } := q
      rw [hl ds env S z] at q
      exact q.elim
  | lst ds =>
    obtain ⟨a, vs, rfl, hq, l⟩ := hV.sqL
    refine .inr ⟨a, vs, rfl, .inl (.inl hq), ?_, ι, env, S, ds, hS, hE, l, q⟩
    rw [l.length]
    by_cases z : ds.length = n
    · exact z
    · have q : AftS X.K X.mg W ι H (gs ds env S) { nx := Q, rt := fun _ _ => False } := q
      rw [hl ds env S z] at q
      exact q.elim
  | _ => exact q.elim
theorem gl_nil : ∀ ds env S, ds.length ≠ 0 → gsNil ds env S = .bad := fun ds env S h => by
  cases ds with
  | nil => exact absurd rfl h
  | cons _ _ => rfl
theorem gl_cons {n : Nat} {g : DGn} {gs : DGs} (hg : ∀ d env S, g d env S = .bad ∨ ∃ env' S', g d env S = .nx env' S') (h : ∀ ds env S, ds.length ≠ n → gs ds env S = .bad) : ∀ ds env S, ds.length ≠ n + 1 → gsCons g gs ds env S = .bad := fun ds env S hl => by
  cases ds with
  | nil => rfl
  | cons d ds =>
    show (g d env S).seq (fun env' S' => gs ds env' S') = .bad
    rcases hg d env S with e | ⟨env', S', e⟩
    · rw [e] <;> rfl
    · rw [e]
      exact h ds env' S' (fun z => hl (by rw [List.length_cons, z]))
theorem gg_nm {i : Nat} : ∀ d env S, gNm i d env S = .bad ∨ ∃ env' S', gNm i d env S = .nx env' S' := fun _ _ _ => .inr ⟨_, _, rfl⟩
theorem ss_set (gX : Go X W) (i : Nat) {x : Str} {pos' : Pos} (he : SE X W e ce) (hi : X.N[i]? = some x := by rfl) (hx : Loc X.env.scope x := by first | exact Or.inl rfl | exact Or.inr rfl)
    (hs : swapsWithSole [.Name x pos'] e pos.line X.env = pure false := by rfl) (hw : swappedStores [.Name x pos'] e X.env = pure none := by rfl)
    (hf : X.fn x = true ∨ X.env.scope.names.lookup x = some .local := by first | exact .inl rfl | exact .inr rfl) : SS X W (.Assign [.Name x pos'] e pos) (sSet i ce) := by
  refine PS.weak (ps_asg he (pg_name (i := i) gX.nd hi hx hf) hs hw) fun D σ H h => ?_
  obtain ⟨ι, env, S, hS, hE, q⟩ := h
  exact tD.th hS hE q fun ι1 H1 v d S1 _ x s e r q => q.nx_ (σ' := σ.set i (some v)) s (e.set r)
theorem ss_asg {tg : Expr} (he : SE X W e ce) (hg : SG X W tg g) (hs : swapsWithSole [tg] e pos.line X.env = pure false := by rfl) (hw : swappedStores [tg] e X.env = pure none := by rfl)
    (h1 : (assignEach [tg] X.env).map (·.2) = [assign tg X.env] := by rfl) :
    SS X W (.Assign [tg] e pos) (sAsg ce g) := by
  refine PS.weak (ps_asg he hg hs hw h1) fun D σ H h => ?_
  obtain ⟨ι, env, S, hS, hE, q⟩ := h
  refine tD.th hS hE q fun ι1 H1 v d S1 _ x s e r q => ?_
  refine ⟨ι1, env, S1, d, s, e, r, ?_⟩
  revert q
  cases g d env S1 with
  | nx env' S' => exact fun q => q
  | exn x env' S' => exact fun q => q
  | _ => exact fun q => q.elim
theorem ss_par (gX : Go X W) (i j : Nat) {x y : Str} {px py pt pt2 : Pos} {kt k2 : Nat} (ha : SA X W [a, b] cs) (hi : X.N[i]? = some x := by rfl) (hj : X.N[j]? = some y := by rfl) (hij : i ≠ j := by decide)
    (hx : X.env.scope.names.lookup x = some .local := by rfl) (hy : X.env.scope.names.lookup y = some .local := by rfl)
    (hw : swappedStores [.Tuple [.Name x px, .Name y py] kt pt] (.Tuple [a, b] k2 pt2) X.env = pure (some [x, y]) := by rfl) :
    SS X W (.Assign [.Tuple [.Name x px, .Name y py] kt pt] (.Tuple [a, b] k2 pt2) pos) (sPar i j cs) := by
  refine PS.weak (ps_par (ta := tDA X.K X.mg W cs) gX.calm gX.nd hi hj hij hx hy ha hw) fun D σ H h => ?_
  obtain ⟨ι, env, S, hS, hE, q⟩ := h
  refine tDA.th hS hE q fun ι1 H1 v d S1 _ x s e r q => ?_
  match d, r, q with
  | [d1, d2], .cons r1 (.cons r2 .nil), q => exact ⟨_, _, rfl, q.nx_ s ((e.set r1).set r2)⟩
  | [], _, q => exact q.elim
  | [_], _, q => exact q.elim
  | _ :: _ :: _ :: _, _, q => exact q.elim
end

/-! ### defs -/
/-- the entry's slots -/
def entry (n : Nat) (ds : List D) : Env := ds.map some ++ List.replicate (n - ds.length) none
/-- a def's body on its arguments: np parameters, n slots -/
def runF (np n : Nat) (c : DSn) : DFn := fun ds S => if ds.length = np then (match c (entry n ds) S with
    | .nx _ S' => .ok .non S'
    | .ret d S' => .ok d S'
    | .exn x _ S' => .exn x S'
    | _ => .bad) else .bad
/-- a def's promise -/
def spD (K : PySem.W.Frag) (mg : Str → Option Value) (F : DFn) : Sp := fun vs H Q E => ∃ ι ds S, SimS K mg ι H S ∧ RepL K mg ι H vs ds ∧ Aft K mg (RepV K mg) E ι H (F ds S) Q
section
variable {K : PySem.W.Frag} {mg : Str → Option Value} {ι : Nm} {H : Hp}
theorem entry_rep {N : List Str} {vs : List V} {ds : List D} (h : RepL K mg ι H vs ds) : RepE K mg ι H (L2.start N vs) (entry N.length ds) := by
  refine ⟨?_, fun i d e => ?_⟩
  · unfold L2.start entry
    rw [List.length_append, List.length_append, List.length_map, List.length_map, List.length_replicate, List.length_replicate, h.length]
  · unfold entry at e
    by_cases hi : i < ds.length
    · rw [List.getElem?_append_left (by simpa using hi), List.getElem?_map] at e
      cases q : ds[i]? with
      | none => rw [q] at e; cases e
      | some d' =>
        rw [q] at e
        have e : some (some d') = some (some d) := e
        cases e
        obtain ⟨v, h1, h2⟩ := h.get q
        refine ⟨v, ?_, h2⟩
        unfold L2.start
        rw [List.getElem?_append_left (by rw [List.length_map, h.length]; exact hi), List.getElem?_map, h1]
        rfl
    · rw [List.getElem?_append_right (by simpa using hi), List.getElem?_replicate] at e
      split at e <;> cases e
end
theorem cx_hp {P : Program} {w : World} {K : PySem.W.Frag} {mg : Str → Option Value} {base : Heap} {N : List Str} {qual : Str} {scope : Scope} {f : Addr} {cd : Value} {A : Around} {outer : List PySem.Env} {s : Shared} {H : Hp} {E : XK} :
    PassesOwn (model P w) (cxOf (CX P w) P w K mg base N qual scope f cd A outer s H E).A (cxOf (CX P w) P w K mg base N qual scope f cd A outer s H E).env (cxOf (CX P w) P w K mg base N qual scope f cd A outer s H E).xe :=
  passes_of (X := cxOf (CX P w) P w K mg base N qual scope f cd A outer s H E) rfl
/-- what leaves a def -/
abbrev wE (E : XK) : WX := fun cls d _ H => E cls d H
theorem fn_d {P : Program} {w : World} {K : PySem.W.Frag} {mg : Str → Option Value} {base : Heap} {x qual : Str} {params : Arguments} {body : List Stmt} {scope : Scope} {dvs : List V} {kws : List (Str × V)} {f : Addr} {fd : FuncData} {N ps : List Str} {k : Nat} {c : DSn}
    (F : FunD K x qual params body scope dvs kws f fd) (S : FnScope N ps scope)
    (hb : ∀ (X : Cx) (E : XK), X.prog = P → X.w = w → X.K = K → X.mg = mg → X.base = base → X.N = N → X.env.scope = scope → (∀ x, X.fn x = true) → Room k X.A → Go X (wE E) → SSs X (wE E) body c) :
    FnOk P w K mg base (CX P w) (k + 1) f fd ps (spD K mg (runF ps.length N.length c)) := by
  refine F.ok S (fun vs H Q E h => ?_) fun cdv A outer s H vs Q E hr h => ?_
  · obtain ⟨ι, ds, S, hS, hL, q⟩ := h
    unfold runF at q
    by_cases hz : ds.length = ps.length
    · rw [hL.length]; exact hz
    · rw [if_neg hz] at q
      exact q.elim
  · refine ⟨tDS K mg (wE E) c, ?_, ?_⟩
    · exact hb (cxOf (CX P w) P w K mg base N qual scope f cdv A outer s H E) E rfl rfl rfl rfl rfl rfl rfl (fun _ => rfl) hr ⟨rfl, S.nd, cx_hp, takes_of rfl rfl rfl rfl⟩
    · obtain ⟨ι, ds, S, hS, hL, q⟩ := h
      unfold runF at q
      by_cases hz : ds.length = ps.length
      · rw [if_pos hz] at q
        refine ⟨ι, entry N.length ds, S, hS, entry_rep hL, ?_⟩
        revert q
        cases c (entry N.length ds) S with
        | nx env S' => exact fun q ι' H' σ' x s e => q ι' H' .non x s .non
        | ret d S' => exact fun q => q
        | exn e env S' => exact fun q ι' H' σ' cls dd x s _ r => q ι' H' cls dd x s r
        | _ => exact fun q => q.elim
      · rw [if_neg hz] at q
        exact q.elim
end DL
end

section
set_option Elab.async false
set_option linter.all false
set_option maxRecDepth 100000
set_option maxHeartbeats 4000000
set_option autoImplicit false
/-! operations on data -/
namespace DL
open PySem PySem.Spec PyProof.Rows L2

/-! ### data as the library's data -/
mutual
def py0 : D → Option PyData
  | .non => some .none
  | .bl b => some (.bool b)
  | .int i => some (.int i)
  | .str x => some (.str x)
  | .tup ds => (py0L ds).map .tuple
  | .lst ds => (py0L ds).map .list
  | .kls ds => (py0L ds).map .list
  | _ => none
def py0L : List D → Option (List PyData)
  | [] => some []
  | d :: ds => (py0 d).bind fun p => (py0L ds).map fun ps => p :: ps
end
mutual
def pyS (S : Sto) : D → Option PyData
  | .non => some .none
  | .bl b => some (.bool b)
  | .int i => some (.int i)
  | .str x => some (.str x)
  | .tup ds => (pySL S ds).map .tuple
  | .lst ds => (pySL S ds).map .list
  | .kls ds => (pySL S ds).map .list
  | .cel n => (match S[n]? with
    | some (.lst ds) => py0L ds
    | _ => none).map .list
  | _ => none
def pySL (S : Sto) : List D → Option (List PyData)
  | [] => some []
  | d :: ds => (pyS S d).bind fun p => (pySL S ds).map fun ps => p :: ps
end
section
variable {K : PySem.W.Frag} {mg : Str → Option Value} {ι : Nm} {H : Hp} {S : Sto}
mutual
theorem RepV.dp : ∀ (d : D) (v : V) (p : PyData), RepV K mg ι H v d → py0 d = some p → Dp K H v p
  | .non, _, _, h, e => by cases h; cases e; exact .non
  | .bl b, _, _, h, e => by cases h; cases e; exact .bl b
  | .int b, _, _, h, e => by cases h; cases e; exact .int b
  | .str b, _, _, h, e => by cases h; cases e; exact .str b
  | .tup ds, _, _, h, e => by
    obtain ⟨a, vs, rfl, hq, l⟩ := h.sqT
    rw [py0] at e
    obtain ⟨ps, e1, rfl⟩ := Option.map_eq_some_iff.mp e
    exact .tup hq (RepL.dp ds vs ps l e1)
  | .lst ds, _, _, h, e => by
    obtain ⟨a, vs, rfl, hq, l⟩ := h.sqL
    rw [py0] at e
    obtain ⟨ps, e1, rfl⟩ := Option.map_eq_some_iff.mp e
    exact .lst (.inl (.inl hq)) (RepL.dp ds vs ps l e1)
  | .kls ds, _, _, h, e => by
    obtain ⟨a, vs, rfl, hq, l⟩ := h.sqK
    rw [py0] at e
    obtain ⟨ps, e1, rfl⟩ := Option.map_eq_some_iff.mp e
    exact .lst hq (RepL.dp ds vs ps l e1)
  | .obj _ _ _, _, _, _, e => by cases e
  | .cel _, _, _, _, e => by cases e
  | .glo _, _, _, _, e => by cases e
  | .ty _, _, _, _, e => by cases e
theorem RepL.dp : ∀ (ds : List D) (vs : List V) (ps : List PyData), RepL K mg ι H vs ds → py0L ds = some ps → DpAll K H vs ps
  | [], _, _, h, e => by cases h; cases e; exact .nil
  | d :: ds, _, _, h, e => by
    cases h with
    | cons a b =>
      rw [py0L] at e
      obtain ⟨p, e1, e2⟩ := Option.bind_eq_some_iff.mp e
      obtain ⟨qs, e3, rfl⟩ := Option.map_eq_some_iff.mp e2
      exact .cons (RepV.dp d _ p a e1) (RepL.dp ds _ qs b e3)
end
mutual
theorem SimS.dp (hS : SimS K mg ι H S) : ∀ (d : D) (v : V) (p : PyData), RepV K mg ι H v d → pyS S d = some p → Dp K H v p
  | .non, _, _, h, e => by cases h; cases e; exact .non
  | .bl b, _, _, h, e => by cases h; cases e; exact .bl b
  | .int b, _, _, h, e => by cases h; cases e; exact .int b
  | .str b, _, _, h, e => by cases h; cases e; exact .str b
  | .tup ds, _, _, h, e => by
    obtain ⟨a, vs, rfl, hq, l⟩ := h.sqT
    rw [pyS] at e
    obtain ⟨ps, e1, rfl⟩ := Option.map_eq_some_iff.mp e
    exact .tup hq (SimS.dpL hS ds vs ps l e1)
  | .lst ds, _, _, h, e => by
    obtain ⟨a, vs, rfl, hq, l⟩ := h.sqL
    rw [pyS] at e
    obtain ⟨ps, e1, rfl⟩ := Option.map_eq_some_iff.mp e
    exact .lst (.inl (.inl hq)) (SimS.dpL hS ds vs ps l e1)
  | .kls ds, _, _, h, e => by
    obtain ⟨a, vs, rfl, hq, l⟩ := h.sqK
    rw [pyS] at e
    obtain ⟨ps, e1, rfl⟩ := Option.map_eq_some_iff.mp e
    exact .lst hq (SimS.dpL hS ds vs ps l e1)
  | .cel n, _, _, h, e => by
    rw [pyS] at e
    obtain ⟨ps, e1, rfl⟩ := Option.map_eq_some_iff.mp e
    cases q : S[n]? with
    | none => rw [q] at e1; cases e1
    | some c =>
      rw [q] at e1
      cases c with
      | ins _ _ _ => cases e1
      | dct _ _ => cases e1
      | lst ds =>
        obtain ⟨a, vs, rfl, hq, l⟩ := hS.list (ds := ds) h (by show (match S[n]? with | some (.lst ds) => some ds | _ => none) = some ds; rw [q])
        exact .lst hq (RepL.dp ds vs ps l e1)
  | .obj _ _ _, _, _, _, e => by cases e
  | .glo _, _, _, _, e => by cases e
  | .ty _, _, _, _, e => by cases e
theorem SimS.dpL (hS : SimS K mg ι H S) : ∀ (ds : List D) (vs : List V) (ps : List PyData), RepL K mg ι H vs ds → pySL S ds = some ps → DpAll K H vs ps
  | [], _, _, h, e => by cases h; cases e; exact .nil
  | d :: ds, _, _, h, e => by
    cases h with
    | cons a b =>
      rw [pySL] at e
      obtain ⟨p, e1, e2⟩ := Option.bind_eq_some_iff.mp e
      obtain ⟨qs, e3, rfl⟩ := Option.map_eq_some_iff.mp e2
      exact .cons (SimS.dp hS d _ p a e1) (SimS.dpL hS ds _ qs b e3)
end
end

/-! ### two data -/
def oAdd (x y : D) (S : Sto) : Res D := match x, y with
  | .int i, .int j => .ok (.int (i + j)) S
  | .tup xs, .tup ys => if xs.length + ys.length ≤ LIM then .ok (.tup (xs ++ ys)) S else .bad
  | .str a, .str b => if a.length + b.length ≤ LIM then .ok (.str (a ++ b)) S else .bad
  | _, _ => .bad
def oSub (x y : D) (S : Sto) : Res D := match x, y with
  | .int i, .int j => .ok (.int (i - j)) S
  | _, _ => .bad
def mulB (i j : Int) : Bool := decide (i.natAbs < 2 ^ 64) || decide (j.natAbs < 2 ^ 64) || decide (i.natAbs.log2 + j.natAbs.log2 < 1000000)
def oMul (x y : D) (S : Sto) : Res D := match x, y with
  | .int i, .int j => if mulB i j = true then .ok (.int (i * j)) S else .bad
  | .tup xs, .int k => if 0 ≤ k ∧ k < 1000 ∧ xs.length * k.toNat ≤ LIM then .ok (.tup (List.replicate k.toNat xs).flatten) S else .bad
  | _, _ => .bad
def oDiv (x y : D) (S : Sto) : Res D := match x, y with
  | .int i, .int j => if 0 < j ∧ j.natAbs.log2 < 9000 then .ok (.int (i / j)) S else .bad
  | _, _ => .bad
def oMod (x y : D) (S : Sto) : Res D := match x, y with
  | .int i, .int j => if 0 < j then .ok (.int (i % j)) S else .bad
  | _, _ => .bad
def oPow (x y : D) (S : Sto) : Res D := match x, y with
  | .int i, .int j => if 0 ≤ j ∧ j ≤ 1000000 ∧ i.natAbs < 2 ^ 64 then .ok (.int (i ^ j.toNat)) S else .bad
  | _, _ => .bad
def oLt (x y : D) (S : Sto) : Res D := match x, y with
  | .int i, .int j => .ok (.bl (decide (i < j))) S
  | _, _ => .bad
def oLe (x y : D) (S : Sto) : Res D := match x, y with
  | .int i, .int j => .ok (.bl (decide (i ≤ j))) S
  | _, _ => .bad
def oGt (x y : D) (S : Sto) : Res D := match x, y with
  | .int i, .int j => .ok (.bl (decide (j < i))) S
  | _, _ => .bad
def oGe (x y : D) (S : Sto) : Res D := match x, y with
  | .int i, .int j => .ok (.bl (decide (j ≤ i))) S
  | _, _ => .bad
/-- == of data -/
def eqD (S : Sto) (x y : D) : Option Bool := (pyS S x).bind fun p => (pyS S y).bind fun q => if SeqAt.shaped p = true ∧ SeqAt.shaped q = true then some (PyData.eqv p q) else none
def oEq (x y : D) (S : Sto) : Res D := match eqD S x y with
  | some b => .ok (.bl b) S
  | none => .bad
def oNe (x y : D) (S : Sto) : Res D := match eqD S x y with
  | some b => .ok (.bl (!b)) S
  | none => .bad
/-- x in a list, a tuple -/
def inD (S : Sto) (x y : D) : Option Bool := (seqOf S y).bind fun ds => (pyS S x).bind fun p => (pySL S ds).bind fun ps => if SeqAt.shaped p = true ∧ SeqAt.shaped (.list ps) = true then some (ps.any fun q => PyData.eqv q p) else none
def oIsN (x y : D) (S : Sto) : Res D := match y with
  | .non => (match x with
    | .non => .ok (.bl true) S
    | _ => .ok (.bl false) S)
  | _ => .bad
def oNotN (x y : D) (S : Sto) : Res D := match y with
  | .non => (match x with
    | .non => .ok (.bl false) S
    | _ => .ok (.bl true) S)
  | _ => .bad
def oNeg (x : D) (S : Sto) : Res D := match x with
  | .int i => .ok (.int (-i)) S
  | _ => .bad

section
variable {X : Cx}
abbrev Roomy (X : Cx) : Prop := X.A.units + 65 < cLine
theorem op_addD : OpR X (binaryOp .Add) (fun x y H Q => rI0 (fun i j => .int (i + j)) x y H Q ∨ rCatA X.K x y H Q ∨ ∃ i j, x = .str i ∧ y = .str j ∧ i.length + j.length ≤ sizeLine ∧ Q (.str (i ++ j)) H) := op_add.or (op_catA.or op_add_str)
theorem p_add : P2 X.K X.mg (fun x y H Q => rI0 (fun i j => .int (i + j)) x y H Q ∨ rCatA X.K x y H Q ∨ ∃ i j, x = .str i ∧ y = .str j ∧ i.length + j.length ≤ sizeLine ∧ Q (.str (i ++ j)) H) oAdd := by
  intro ι H S x y v u We Q hS rx ry q
  cases x with
  | int i =>
    cases y with
    | int j =>
      cases rx
      cases ry
      exact .inl ⟨i, j, rfl, rfl, Aft.done q hS (.int _)⟩
    | _ => exact q.elim
  | str i =>
    cases y with
    | str j =>
      cases rx
      cases ry
      have q : Aft X.K X.mg (RepV X.K X.mg) We ι H (if i.length + j.length ≤ LIM then .ok (.str (i ++ j)) S else .bad) Q := q
      split at q
      · rename_i hl
        exact .inr (.inr ⟨i, j, rfl, rfl, by rw [lim_eq]; exact hl, Aft.done q hS (.str _)⟩)
      · exact q.elim
    | _ => exact q.elim
  | tup xs =>
    cases y with
    | tup ys =>
      obtain ⟨a, vs, rfl, ha, la⟩ := rx.sqT
      obtain ⟨b, us, rfl, hb, lb⟩ := ry.sqT
      have q : Aft X.K X.mg (RepV X.K X.mg) We ι H (if xs.length + ys.length ≤ LIM then .ok (.tup (xs ++ ys)) S else .bad) Q := q
      split at q
      · rename_i hl
        refine .inr (.inl ⟨a, b, vs, us, rfl, rfl, ha, hb, by rw [la.length, lb.length, lim_eq]; exact hl, fun e => ?_, fun _ e => ?_, fun _ _ p hp => ?_⟩)
        · have e2 : xs = [] := by
            have := la.length
            rw [e] at this
            exact List.eq_nil_of_length_eq_zero this.symm
          subst e2
          exact Aft.done q hS ry
        · have e2 : ys = [] := by
            have := lb.length
            rw [e] at this
            exact List.eq_nil_of_length_eq_zero this.symm
          subst e2
          rw [List.append_nil] at q
          exact Aft.done q hS rx
        · exact q ι _ _ (Ext.new hp) (hS.new hp) (.tup upd_same (hS.fresh hp) ((la.append lb).ext (Ext.new hp)))
      · exact q.elim
    | _ => exact q.elim
  | _ => exact q.elim
theorem p_sub : P2 X.K X.mg (rI0 fun i j => .int (i - j)) oSub := by
  intro ι H S x y v u We Q hS rx ry q
  cases x with
  | int i =>
    cases y with
    | int j =>
      cases rx
      cases ry
      exact ⟨i, j, rfl, rfl, Aft.done q hS (.int _)⟩
    | _ => exact q.elim
  | _ => exact q.elim
def rMulD (X : Cx) : R2 := fun x y H Q => rI CMul (fun i j => .int (i * j)) x y H Q ∨ rI CMulW (fun i j => .int (i * j)) x y H Q
theorem op_mulD : OpR X (binaryOp .Mult) (rMulD X) := op_mul.or op_mulW
def oMulI (x y : D) (S : Sto) : Res D := match x, y with
  | .int i, .int j => if mulB i j = true then .ok (.int (i * j)) S else .bad
  | _, _ => .bad
theorem p_mul : P2 X.K X.mg (rMulD X) oMulI := by
  intro ι H S x y v u We Q hS rx ry q
  cases x with
  | int i =>
    cases y with
    | int j =>
      cases rx
      cases ry
      have q : Aft X.K X.mg (RepV X.K X.mg) We ι H (if mulB i j = true then .ok (.int (i * j)) S else .bad) Q := q
      split at q
      · rename_i hm
        unfold mulB at hm
        simp only [Bool.or_eq_true, decide_eq_true_eq] at hm
        rcases hm with (hm | hm) | hm
        · exact .inl ⟨i, j, rfl, rfl, .inl ⟨by omega, by omega⟩, Aft.done q hS (.int _)⟩
        · exact .inl ⟨i, j, rfl, rfl, .inr ⟨by omega, by omega⟩, Aft.done q hS (.int _)⟩
        · exact .inr ⟨i, j, rfl, rfl, hm, Aft.done q hS (.int _)⟩
      · exact q.elim
    | _ => exact q.elim
  | _ => exact q.elim
theorem p_div : P2 X.K X.mg (rI CDivW fun i j => .int (i / j)) oDiv := by
  intro ι H S x y v u We Q hS rx ry q
  cases x with
  | int i =>
    cases y with
    | int j =>
      cases rx
      cases ry
      have q : Aft X.K X.mg (RepV X.K X.mg) We ι H (if 0 < j ∧ j.natAbs.log2 < 9000 then .ok (.int (i / j)) S else .bad) Q := q
      split at q
      · rename_i hm
        exact ⟨i, j, rfl, rfl, hm, Aft.done q hS (.int _)⟩
      · exact q.elim
    | _ => exact q.elim
  | _ => exact q.elim
theorem p_mod : P2 X.K X.mg (rI (fun _ j => 0 < j) fun i j => .int (i % j)) oMod := by
  intro ι H S x y v u We Q hS rx ry q
  cases x with
  | int i =>
    cases y with
    | int j =>
      cases rx
      cases ry
      have q : Aft X.K X.mg (RepV X.K X.mg) We ι H (if 0 < j then .ok (.int (i % j)) S else .bad) Q := q
      split at q
      · rename_i hm
        exact ⟨i, j, rfl, rfl, hm, Aft.done q hS (.int _)⟩
      · exact q.elim
    | _ => exact q.elim
  | _ => exact q.elim
theorem p_pow : P2 X.K X.mg (rI CPow fun i j => .int (i ^ j.toNat)) oPow := by
  intro ι H S x y v u We Q hS rx ry q
  cases x with
  | int i =>
    cases y with
    | int j =>
      cases rx
      cases ry
      have q : Aft X.K X.mg (RepV X.K X.mg) We ι H (if 0 ≤ j ∧ j ≤ 1000000 ∧ i.natAbs < 2 ^ 64 then .ok (.int (i ^ j.toNat)) S else .bad) Q := q
      split at q
      · rename_i hm
        exact ⟨i, j, rfl, rfl, hm, Aft.done q hS (.int _)⟩
      · exact q.elim
    | _ => exact q.elim
  | _ => exact q.elim
theorem p_cmpI {g : Int → Int → Bool} {o : D → D → Sto → Res D} (h : ∀ i j S, o (.int i) (.int j) S = .ok (.bl (g i j)) S) (hb : ∀ x y S, (∀ i j, x = .int i → y = .int j → False) → o x y S = .bad) : P2 X.K X.mg (rI0 fun i j => .bl (g i j)) o := by
  intro ι H S x y v u We Q hS rx ry q
  by_cases z : ∃ i j, x = .int i ∧ y = .int j
  · obtain ⟨i, j, rfl, rfl⟩ := z
    cases rx
    cases ry
    rw [h] at q
    exact ⟨i, j, rfl, rfl, Aft.done q hS (.bl _)⟩
  · rw [hb x y S fun i j e1 e2 => z ⟨i, j, e1, e2⟩] at q
    exact q.elim
theorem p_lt : P2 X.K X.mg (rI0 fun i j => .bl (decide (i < j))) oLt := p_cmpI (fun _ _ _ => rfl) fun x y S h => by
  cases x <;> cases y <;> first | rfl | exact (h _ _ rfl rfl).elim
theorem p_le : P2 X.K X.mg (rI0 fun i j => .bl (decide (i ≤ j))) oLe := p_cmpI (fun _ _ _ => rfl) fun x y S h => by
  cases x <;> cases y <;> first | rfl | exact (h _ _ rfl rfl).elim
theorem p_gt : P2 X.K X.mg (rI0 fun i j => .bl (decide (j < i))) oGt := p_cmpI (fun _ _ _ => rfl) fun x y S h => by
  cases x <;> cases y <;> first | rfl | exact (h _ _ rfl rfl).elim
theorem p_ge : P2 X.K X.mg (rI0 fun i j => .bl (decide (j ≤ i))) oGe := p_cmpI (fun _ _ _ => rfl) fun x y S h => by
  cases x <;> cases y <;> first | rfl | exact (h _ _ rfl rfl).elim
theorem eqD_some {S : Sto} {x y : D} {b : Bool} (h : eqD S x y = some b) : ∃ p q, pyS S x = some p ∧ pyS S y = some q ∧ SeqAt.shaped p = true ∧ SeqAt.shaped q = true ∧ PyData.eqv p q = b := by
  unfold eqD at h
  obtain ⟨p, e1, h⟩ := Option.bind_eq_some_iff.mp h
  obtain ⟨q, e2, h⟩ := Option.bind_eq_some_iff.mp h
  split at h
  · rename_i z
    cases h
    exact ⟨p, q, e1, e2, z.1, z.2, rfl⟩
  · cases h
theorem p_eq : P2 X.K X.mg (rEqD X.K) oEq := by
  intro ι H S x y v u We Q hS rx ry q
  unfold oEq at q
  cases e : eqD S x y with
  | none => rw [e] at q; exact q.elim
  | some b =>
    rw [e] at q
    obtain ⟨p, p', e1, e2, h1, h2, rfl⟩ := eqD_some e
    exact ⟨p, p', hS.dp x v p rx e1, hS.dp y u p' ry e2, h1, h2, Aft.done q hS (.bl _)⟩
theorem p_ne : P2 X.K X.mg (rNeD X.K) oNe := by
  intro ι H S x y v u We Q hS rx ry q
  unfold oNe at q
  cases e : eqD S x y with
  | none => rw [e] at q; exact q.elim
  | some b =>
    rw [e] at q
    obtain ⟨p, p', e1, e2, h1, h2, rfl⟩ := eqD_some e
    exact ⟨p, p', hS.dp x v p rx e1, hS.dp y u p' ry e2, h1, h2, Aft.done q hS (.bl _)⟩
theorem p_isN : P2 X.K X.mg (fun x y H Q => y = .non ∧ Q (.bl (decide (x = .non))) H) oIsN := by
  intro ι H S x y v u We Q hS rx ry q
  cases y with
  | non =>
    cases ry
    refine ⟨rfl, ?_⟩
    cases x with
    | non => cases rx; exact Aft.done q hS (.bl true)
    | _ =>
      have e : decide (v = V.non) = false := decide_eq_false (by rintro rfl; cases rx)
      rw [e]
      exact Aft.done q hS (.bl false)
  | _ => exact q.elim
theorem p_notN : P2 X.K X.mg (fun x y H Q => y = .non ∧ Q (.bl (!decide (x = .non))) H) oNotN := by
  intro ι H S x y v u We Q hS rx ry q
  cases y with
  | non =>
    cases ry
    refine ⟨rfl, ?_⟩
    cases x with
    | non => cases rx; exact Aft.done q hS (.bl false)
    | _ =>
      have e : decide (v = V.non) = false := decide_eq_false (by rintro rfl; cases rx)
      rw [e]
      exact Aft.done q hS (.bl true)
  | _ => exact q.elim
theorem p_neg : P1 X.K X.mg (rU fun i => .int (-i)) oNeg := by
  intro ι H S x v We Q hS rx q
  cases x with
  | int i =>
    cases rx
    exact ⟨i, rfl, Aft.done q hS (.int _)⟩
  | _ => exact q.elim
end

/-! ### items, slices -/
def oIx (x y : D) (S : Sto) : Res D := match y with
  | .int i => (match seqOf S x with
    | some ds => (match atI ds i with
      | some d => .ok d S
      | none => .bad)
    | none => (match x with
      | .str z => if z.length ≤ LIM then (match atI z.cps.toList i with
        | some c => .ok (.str ⟨#[c]⟩) S
        | none => .bad) else .bad
      | _ => .bad))
  | _ => .bad
theorem atI_rep {K : PySem.W.Frag} {mg : Str → Option Value} {ι : Nm} {H : Hp} {vs : List V} {ds : List D} {i : Int} {d : D} (l : RepL K mg ι H vs ds) (e : atI ds i = some d) : ∃ v, atI vs i = some v ∧ RepV K mg ι H v d := by
  unfold atI at e ⊢
  rw [l.length]
  cases q : ixN ds.length i with
  | none => rw [q] at e; cases e
  | some j =>
    rw [q] at e
    exact l.get e
section
variable {X : Cx} {W : WX} {a b : Expr} {ca cb cl ch : DEn} {pos p2 : Pos}
theorem p_ix : P2 X.K X.mg (rIx X.K) oIx := by
  intro ι H S x y v u We Q hS rx ry q
  cases y with
  | int i =>
    cases ry
    unfold oIx at q
    simp only at q
    cases e : seqOf S x with
    | some ds =>
      rw [e] at q
      simp only at q
      cases e2 : atI ds i with
      | none => rw [e2] at q; exact q.elim
      | some d =>
        rw [e2] at q
        obtain ⟨p, vs, rfl, hq, l⟩ := hS.seq rx e
        obtain ⟨v, h1, h2⟩ := atI_rep l e2
        rcases hq with hq | hq
        · exact .inl ⟨p, vs, i, v, rfl, rfl, hq, h1, Aft.done q hS h2⟩
        · exact .inr (.inl ⟨p, vs, i, v, rfl, rfl, hq, h1, Aft.done q hS h2⟩)
    | none =>
      rw [e] at q
      cases x with
      | str z =>
        simp only at q
        split at q
        · rename_i hl
          cases e2 : atI z.cps.toList i with
          | none => rw [e2] at q; exact q.elim
          | some c =>
            rw [e2] at q
            cases rx
            exact .inr (.inr ⟨z, i, c, rfl, rfl, by rw [lim_eq]; exact hl, e2, Aft.done q hS (.str _)⟩)
        · exact q.elim
      | _ => exact q.elim
  | _ => exact q.elim
theorem se_ix (ha : SE X W a ca) (hb : SE X W b cb) (hs : PlainIx b := by intro _ _; rfl) : SE X W (.Subscript a b pos) (cBin oIx ca cb) := PE.weak (pe_ix ix_seq ha hb hs) fun _ _ _ h => t2 p_ix h
/-- a part of a slice -/
abbrev DPn := Env → Sto → Res (Option Int)
def tDP (K : PySem.W.Frag) (mg : Str → Option Value) (W : WX) (c : DPn) : TO := fun σ H Q => ∃ ι env S, SimS K mg ι H S ∧ RepE K mg ι H σ env ∧ Aft K mg (fun _ _ (a b : Option Int) => a = b) (fun cls dd H' => W cls dd σ H') ι H (c env S) Q
def cNo : DPn := fun _ S => .ok none S
def asI : D → Sto → Res (Option Int)
  | .int i, S => .ok (some i) S
  | _, _ => .bad
def cPart (c : DEn) : DPn := fun env S => (c env S).bind asI
theorem PO.weak {X : Cx} {e : Option Expr} {t t' : TO} (h : PO X e t) (k : ∀ σ H Q, t' σ H Q → t σ H Q) : PO X e t' := ⟨fun pins s σ H Q I q => h.run pins s σ H Q I (k _ _ _ q)⟩
abbrev SO (X : Cx) (W : WX) (e : Option Expr) (c : DPn) : Prop := PO X e (tDP X.K X.mg W c)
theorem so_none : SO X W none cNo := PO.weak po_none fun σ H Q h => by
  obtain ⟨ι, env, S, hS, hE, q⟩ := h
  exact Aft.done q hS rfl
theorem so_some (h : SE X W a ca) : SO X W (some a) (cPart ca) := PO.weak (po_some h) fun σ H Q h => by
  obtain ⟨ι, env, S, hS, hE, q⟩ := h
  refine tD.seq hS hE q fun ι1 H1 v d S1 _ x1 s1 e1 r1 q1 => ?_
  cases d with
  | int i =>
    cases r1
    exact ⟨i, rfl, Aft.done q1 s1 rfl⟩
  | _ => exact q1.elim
theorem tDP.seq {K : PySem.W.Frag} {mg : Str → Option Value} {W : WX} {ι : Nm} {H : Hp} {S : Sto} {σ : L2.St} {env : Env} {γ δ : Type} {c : DPn} {f : Option Int → Sto → Res γ} {rep2 : Nm → Hp → δ → γ → Prop} {Q : δ → Hp → Prop} {R : Option Int → Hp → Prop} (hS : SimS K mg ι H S) (hE : RepE K mg ι H σ env)
    (h : Aft K mg rep2 (fun cls dd H' => W cls dd σ H') ι H ((c env S).bind f) Q)
    (k : ∀ ι1 H1 b S1, c env S = .ok b S1 → Ext ι H ι1 H1 → SimS K mg ι1 H1 S1 → RepE K mg ι1 H1 σ env → Aft K mg rep2 (fun cls dd H' => W cls dd σ H') ι1 H1 (f b S1) Q → R b H1) : tDP K mg W c σ H R :=
  ⟨ι, env, S, hS, hE, Aft.seq h fun ι1 H1 v d S1 e x s r q => by
    have e' : v = d := r
    subst e'
    exact k ι1 H1 v S1 e x s (hE.ext x) q⟩
def cutD (xs : List D) (lo hi : Option Int) : List D := (xs.drop (HT.sIx xs.length 0 lo)).take (HT.sIx xs.length xs.length hi - HT.sIx xs.length 0 lo)
theorem cut_rep {K : PySem.W.Frag} {mg : Str → Option Value} {ι : Nm} {H : Hp} {vs : List V} {ds : List D} (l : RepL K mg ι H vs ds) (lo hi : Option Int) : RepL K mg ι H (cutV vs lo hi) (cutD ds lo hi) := by
  unfold cutV cutD
  rw [l.length]
  exact (l.drop _).take _
/-- a slice of a tuple, a text -/
def fSl (x : D) (lo hi : Option Int) (S : Sto) : Res D := match x with
  | .tup ds => .ok (.tup (cutD ds lo hi)) S
  | .str z => if z.length ≤ LIM then .ok (.str (cutS z lo hi)) S else .bad
  | _ => .bad
def cSl (c : DEn) (l h : DPn) : DEn := fun env S => (c env S).bind fun x S1 => (l env S1).bind fun lo S2 => (h env S2).bind fun hi S3 => fSl x lo hi S3
theorem se_sl {lo hi : Option Expr} {cl ch : DPn} (ha : SE X W a ca) (hl : SO X W lo cl) (hh : SO X W hi ch) : SE X W (.Subscript a (.Slice lo hi none p2) pos) (cSl ca cl ch) := PE.weak (pe_slice (sl_tupA.or sl_str) ha hl hh) fun σ H Q h => by
  obtain ⟨ι, env, S, hS, hE, q⟩ := h
  refine tD.seq hS hE q fun ι1 H1 v d S1 _ x1 s1 e1 r1 q1 => ?_
  refine tDP.seq s1 e1 q1 fun ι2 H2 i S2 _ x2 s2 e2 q2 => ?_
  refine tDP.seq s2 e2 q2 fun ι3 H3 j S3 _ x3 s3 e3 q3 => ?_
  cases d with
  | tup ds =>
    have r3 := (r1.ext x2).ext x3
    obtain ⟨p, vs, rfl, hq, l⟩ := r3.sqT
    refine .inl ⟨p, vs, rfl, hq, fun e => ?_, fun _ p hp => ?_⟩
    · refine Aft.done q3 s3 ?_
      have z : cutD ds i j = ds := by
        unfold cutD
        rw [← l.length, e.1, e.2, List.drop_zero, Nat.sub_zero, l.length, List.take_length]
      rw [z]
      exact r3
    · exact q3 ι3 _ _ (Ext.new hp) (s3.new hp) (.tup upd_same (s3.fresh hp) ((cut_rep l i j).ext (Ext.new hp)))
  | str z =>
    cases r1
    have q3 : Aft X.K X.mg (RepV X.K X.mg) (fun cls dd H' => W cls dd σ H') ι3 H3 (if z.length ≤ LIM then .ok (.str (cutS z i j)) S3 else .bad) Q := q3
    split at q3
    · rename_i hl
      exact .inr ⟨z, rfl, by rw [lim_eq]; exact hl, Aft.done q3 s3 (.str _)⟩
    · exact q3.elim
  | _ => exact q3.elim
/-- a slice of a list: a new list -/
def cSlL (c : DEn) (l h : DPn) : DAn := fun env S => (c env S).bind fun x S1 => (l env S1).bind fun lo S2 => (h env S2).bind fun hi S3 => match listOf S3 x with
  | some ds => .ok (cutD ds lo hi) S3
  | none => .bad
theorem AftF.seq {K : PySem.W.Frag} {mg : Str → Option Value} {We : WE} {ι : Nm} {H : Hp} {S : Sto} {α β : Type} {rep : Nm → Hp → β → α → Prop} {r : Res α} {f : α → Sto → Res (List D)} {Q : VK} {R : β → Hp → Prop} (hS : SimS K mg ι H S) (h : AftF K mg We ι H (r.bind f) Q)
    (k : ∀ ι1 H1 v d S1, r = .ok d S1 → Ext ι H ι1 H1 → SimS K mg ι1 H1 S1 → rep ι1 H1 v d → AftF K mg We ι1 H1 (f d S1) Q → R v H1) : Aft K mg rep We ι H r R := by
  cases r with
  | ok d S' => exact fun ι1 H1 v y s q => k ι1 H1 v d S' rfl y s q (AftF.ext y (fun p e => hS.back s y e) h)
  | exn e S' => exact h
  | bad => exact h
theorem tD.seqF {K : PySem.W.Frag} {mg : Str → Option Value} {W : WX} {ι : Nm} {H : Hp} {S : Sto} {σ : L2.St} {env : Env} {c : DEn} {f : D → Sto → Res (List D)} {Q R : VK} (hS : SimS K mg ι H S) (hE : RepE K mg ι H σ env)
    (h : AftF K mg (fun cls dd H' => W cls dd σ H') ι H ((c env S).bind f) Q)
    (k : ∀ ι1 H1 v d S1, c env S = .ok d S1 → Ext ι H ι1 H1 → SimS K mg ι1 H1 S1 → RepE K mg ι1 H1 σ env → RepV K mg ι1 H1 v d → AftF K mg (fun cls dd H' => W cls dd σ H') ι1 H1 (f d S1) Q → R v H1) : tD K mg W c σ H R :=
  ⟨ι, env, S, hS, hE, AftF.seq hS h fun ι1 H1 v d S1 e x s r q => k ι1 H1 v d S1 e x s (hE.ext x) r q⟩
theorem tDA.seqF {K : PySem.W.Frag} {mg : Str → Option Value} {W : WX} {ι : Nm} {H : Hp} {S : Sto} {σ : L2.St} {env : Env} {c : DAn} {f : List D → Sto → Res (List D)} {Q : VK} {R : List V → Hp → Prop} (hS : SimS K mg ι H S) (hE : RepE K mg ι H σ env)
    (h : AftF K mg (fun cls dd H' => W cls dd σ H') ι H ((c env S).bind f) Q)
    (k : ∀ ι1 H1 v d S1, c env S = .ok d S1 → Ext ι H ι1 H1 → SimS K mg ι1 H1 S1 → RepE K mg ι1 H1 σ env → RepL K mg ι1 H1 v d → AftF K mg (fun cls dd H' => W cls dd σ H') ι1 H1 (f d S1) Q → R v H1) : tDA K mg W c σ H R :=
  ⟨ι, env, S, hS, hE, AftF.seq hS h fun ι1 H1 v d S1 e x s r q => k ι1 H1 v d S1 e x s (hE.ext x) r q⟩
theorem tDP.seqF {K : PySem.W.Frag} {mg : Str → Option Value} {W : WX} {ι : Nm} {H : Hp} {S : Sto} {σ : L2.St} {env : Env} {c : DPn} {f : Option Int → Sto → Res (List D)} {Q : VK} {R : Option Int → Hp → Prop} (hS : SimS K mg ι H S) (hE : RepE K mg ι H σ env)
    (h : AftF K mg (fun cls dd H' => W cls dd σ H') ι H ((c env S).bind f) Q)
    (k : ∀ ι1 H1 d S1, c env S = .ok d S1 → Ext ι H ι1 H1 → SimS K mg ι1 H1 S1 → RepE K mg ι1 H1 σ env → AftF K mg (fun cls dd H' => W cls dd σ H') ι1 H1 (f d S1) Q → R d H1) : tDP K mg W c σ H R :=
  ⟨ι, env, S, hS, hE, AftF.seq hS h fun ι1 H1 v d S1 e x s r q => by
    have e' : v = d := r
    subst e'
    exact k ι1 H1 v S1 e x s (hE.ext x) q⟩
/-- a new list is laid -/
theorem AftF.lay {K : PySem.W.Frag} {mg : Str → Option Value} {We : WE} {ι : Nm} {H : Hp} {S : Sto} {ds : List D} {vs : List V} {Q : VK} (h : AftF K mg We ι H (.ok ds S) Q) (hS : SimS K mg ι H S) (l : RepL K mg ι H vs ds) : ∀ p, H p = none → Q (.ref p) (upd H p (.lst vs)) :=
  fun p hp => h ι _ p vs (Ext.new hp) (hS.newHid hp) hp (hS.fresh hp).2 upd_same (RepL.mo (Mo.hideNew hp) _ _ l)
theorem sf_sl {lo hi : Option Expr} {cl ch : DPn} (ha : SE X W a ca) (hl : SO X W lo cl) (hh : SO X W hi ch) : SF X W (.Subscript a (.Slice lo hi none p2) pos) (cSlL ca cl ch) := PE.weak (pe_slice sl_list ha hl hh) fun σ H Q h => by
  obtain ⟨ι, env, S, hS, hE, q⟩ := h
  refine tD.seqF hS hE q fun ι1 H1 v d S1 _ x1 s1 e1 r1 q1 => ?_
  refine tDP.seqF s1 e1 q1 fun ι2 H2 i S2 _ x2 s2 e2 q2 => ?_
  refine tDP.seqF s2 e2 q2 fun ι3 H3 j S3 _ x3 s3 e3 q3 => ?_
  cases e : listOf S3 d with
  | none => rw [e] at q3; exact q3.elim
  | some ds =>
    rw [e] at q3
    obtain ⟨p, vs, rfl, hq, l⟩ := s3.list ((r1.ext x2).ext x3) e
    exact ⟨p, vs, rfl, hq, q3.lay s3 (cut_rep l i j)⟩
/-- + of two lists: a new list -/
def strictL (S : Sto) : D → Option (List D)
  | .lst ds => some ds
  | .cel n => (match S[n]? with
    | some (.lst ds) => some ds
    | _ => none)
  | _ => none
theorem SimS.strict {K : PySem.W.Frag} {mg : Str → Option Value} {ι : Nm} {H : Hp} {S : Sto} (h : SimS K mg ι H S) {v : V} {d : D} {ds : List D} (r : RepV K mg ι H v d) (e : strictL S d = some ds) : ∃ a vs, v = .ref a ∧ H a = some (.lst vs) ∧ RepL K mg ι H vs ds := by
  cases d with
  | lst es =>
    cases e
    exact r.sqL
  | cel n =>
    cases r with
    | cel hn =>
      have e : (match S[n]? with | some (.lst ds) => some ds | _ => none) = some ds := e
      cases q : S[n]? with
      | none => rw [q] at e; cases e
      | some c =>
        rw [q] at e
        cases c with
        | lst es =>
          cases e
          obtain ⟨vs, q1, l⟩ := h.at_ n _ _ q hn
          exact ⟨_, vs, rfl, q1, l⟩
        | ins _ _ _ => cases e
        | dct _ _ => cases e
  | _ => cases e
def cCat (a b : DEn) : DAn := fun env S => (a env S).bind fun x S1 => (b env S1).bind fun y S2 => match strictL S2 x, strictL S2 y with
  | some xs, some ys => if xs.length + ys.length ≤ LIM then .ok (xs ++ ys) S2 else .bad
  | _, _ => .bad
theorem sf_cat (ha : SE X W a ca) (hb : SE X W b cb) : SF X W (.BinOp a .Add b pos) (cCat ca cb) := PE.weak (pe_op op_cat ha hb) fun σ H Q h => by
  obtain ⟨ι, env, S, hS, hE, q⟩ := h
  refine tD.seqF hS hE q fun ι1 H1 v d S1 _ x1 s1 e1 r1 q1 => ?_
  refine tD.seqF s1 e1 q1 fun ι2 H2 u d2 S2 _ x2 s2 e2 r2 q2 => ?_
  cases e : strictL S2 d with
  | none => rw [e] at q2; exact q2.elim
  | some xs =>
    cases e' : strictL S2 d2 with
    | none => rw [e, e'] at q2; exact q2.elim
    | some ys =>
      rw [e, e'] at q2
      simp only at q2
      split at q2
      · rename_i hl
        obtain ⟨p, vs, rfl, hq, l⟩ := s2.strict (r1.ext x2) e
        obtain ⟨p', us, rfl, hq', l'⟩ := s2.strict r2 e'
        exact ⟨p, p', vs, us, rfl, rfl, hq, hq', by rw [l.length, l'.length, lim_eq]; exact hl, q2.lay s2 (l.append l')⟩
      · exact q2.elim
theorem RepL.repl {K : PySem.W.Frag} {mg : Str → Option Value} {ι : Nm} {H : Hp} {vs : List V} {ds : List D} (l : RepL K mg ι H vs ds) : ∀ k : Nat, RepL K mg ι H (List.replicate k vs).flatten (List.replicate k ds).flatten
  | 0 => .nil
  | k + 1 => by
    rw [List.replicate_succ, List.replicate_succ, List.flatten_cons, List.flatten_cons]
    exact l.append (RepL.repl l k)
def cRep (a b : DEn) : DAn := fun env S => (a env S).bind fun x S1 => (b env S1).bind fun y S2 => match strictL S2 x, y with
  | some xs, .int k => if k.natAbs < 2 ^ 62 ∧ xs.length * k.toNat ≤ LIM then .ok (List.replicate k.toNat xs).flatten S2 else .bad
  | _, _ => .bad
theorem sf_rep (ha : SE X W a ca) (hb : SE X W b cb) : SF X W (.BinOp a .Mult b pos) (cRep ca cb) := PE.weak (pe_op op_rep ha hb) fun σ H Q h => by
  obtain ⟨ι, env, S, hS, hE, q⟩ := h
  refine tD.seqF hS hE q fun ι1 H1 v d S1 _ x1 s1 e1 r1 q1 => ?_
  refine tD.seqF s1 e1 q1 fun ι2 H2 u d2 S2 _ x2 s2 e2 r2 q2 => ?_
  cases e : strictL S2 d with
  | none => rw [e] at q2; exact q2.elim
  | some xs =>
    rw [e] at q2
    cases d2 with
    | int k =>
      cases r2
      simp only at q2
      split at q2
      · rename_i hl
        obtain ⟨p, vs, rfl, hq, l⟩ := s2.strict (r1.ext x2) e
        exact ⟨p, k, vs, rfl, rfl, hq, by omega, by omega, by rw [l.length, lim_eq]; exact hl.2, q2.lay s2 (l.repl _)⟩
      · exact q2.elim
    | _ => exact q2.elim
end
end DL
end

section
set_option Elab.async false
set_option linter.all false
set_option maxRecDepth 100000
set_option maxHeartbeats 4000000
set_option autoImplicit false
/-! calls: defs, built-ins -/
namespace DL
open PySem PySem.Spec PyProof.Rows L2

/-! ### calls of defs -/
section
variable {X : Cx} {W : WX} {e o : Expr} {es : List Expr} {x : Str} {p pos apos : Pos} {cs : DAn} {ce : DEn} {k : Nat} {f : Addr} {fd : FuncData} {ps : List Str} {F : DFn}
theorem se_call (gX : Go X W) (hF : FnOk X.prog X.w X.K X.mg X.base (CX X.prog X.w) k f fd ps (spD X.K X.mg F)) (hr : Room k X.A) (hm : X.mg x = some (.ref f)) (hk : PySem.W.keepIn X.K (.ref f) = true) (hb : L2.Binds X.K fd ps []) (ha : SA X W (e :: es) cs)
    (hg : Gl X x := by rfl) (hd : (x == ("__debug__" : Str)) = false := by decide) (hs : starEach (e :: es) X.env = (false, eval e X.env) :: starEach es X.env := by rfl) (hpl : (backTo pos (starEach es X.env)).any (·.1) = false := by rfl) :
    SE X W (.Call (.Name x p) (e :: es) [] pos) (cApp F cs) := by
  refine PE.weak (pe_callS (E := fun σ cls dd H => W cls dd σ H) hF hr hg hm hk hb (fun σ => passAt gX.tk σ) ha hd hs hpl) fun σ H Q h => ?_
  obtain ⟨ι, env, S, hS, hE, q⟩ := h
  exact tDA.seq hS hE q fun ι1 H1 vs ds S1 _ x1 s1 e1 r1 q1 => ⟨ι1, ds, S1, s1, r1, q1⟩
end

/-! ### built-ins -/
section
variable {X : Cx} {W : WX} {e : Expr} {es : List Expr} {x : Str} {p pos : Pos} {cs : DAn} {id T : String} {r : List V → Hp → VK → Prop} {F : DFn}
theorem tN (hp : PN X.K X.mg r F) {σ : L2.St} {H : Hp} {Q : VK} (h : tD X.K X.mg W (cApp F cs) σ H Q) : tCB r (tDA X.K X.mg W cs) σ H Q := by
  obtain ⟨ι, env, S, hS, hE, q⟩ := h
  exact tDA.seq hS hE q fun ι1 H1 vs ds S1 _ x1 s1 e1 r1 q1 => hp ι1 H1 S1 ds vs _ Q s1 r1 q1
theorem se_bi (hc : CallR X (.builtin id) r) (hp : PN X.K X.mg r F) (hm : X.mg x = none) (ha : SA X W (e :: es) cs) (hv : bootBuiltins x = some (.builtin id) := by decide +kernel) (hg : Gl X x := by rfl) (hn : x ≠ "__name__" := by decide) (hdb : (x == ("__debug__" : Str)) = false := by decide)
    (he : starEach (e :: es) X.env = (false, eval e X.env) :: starEach es X.env := by rfl) (hpl : (backTo pos (starEach es X.env)).any (·.1) = false := by rfl) : SE X W (.Call (.Name x p) (e :: es) [] pos) (cApp F cs) :=
  PE.weak (pe_callB hc hg hm hv ha hn hdb he hpl) fun _ _ _ h => tN hp h
theorem se_bt (hc : CallR X (.type T) r) (hp : PN X.K X.mg r F) (hm : X.mg x = none) (ha : SA X W (e :: es) cs) (hv : bootBuiltins x = some (.type T) := by decide +kernel) (hg : Gl X x := by rfl) (hn : x ≠ "__name__" := by decide) (hdb : (x == ("__debug__" : Str)) = false := by decide)
    (he : starEach (e :: es) X.env = (false, eval e X.env) :: starEach es X.env := by rfl) (hpl : (backTo pos (starEach es X.env)).any (·.1) = false := by rfl) : SE X W (.Call (.Name x p) (e :: es) [] pos) (cApp F cs) :=
  PE.weak (pe_callTy hc hg hm hv ha hn hdb he hpl) fun _ _ _ h => tN hp h
theorem se_gb (hc : CallR X (.builtin id) r) (hp : PN X.K X.mg r F) (hm : X.mg x = some (.builtin id)) (ha : SA X W (e :: es) cs) (hg : Gl X x := by rfl) (hdb : (x == ("__debug__" : Str)) = false := by decide)
    (he : starEach (e :: es) X.env = (false, eval e X.env) :: starEach es X.env := by rfl) (hpl : (backTo pos (starEach es X.env)).any (·.1) = false := by rfl) : SE X W (.Call (.Name x p) (e :: es) [] pos) (cApp F cs) :=
  PE.weak (pe_callBfun hc hg hm ha hdb he hpl) fun _ _ _ h => tN hp h
/-- .. that give a new list -/
abbrev DFl := List D → Sto → Res (List D)
def cAppF (F : DFl) (a : DAn) : DAn := fun env S => (a env S).bind F
def PF (K : PySem.W.Frag) (mg : Str → Option Value) (r : List V → Hp → VK → Prop) (f : DFl) : Prop :=
  ∀ (ι : Nm) (H : Hp) (S : Sto) (xs : List D) (vs : List V) (We : WE) (Q : VK), SimS K mg ι H S → RepL K mg ι H vs xs → AftF K mg We ι H (f xs S) Q → r vs H Q
theorem tF {F : DFl} (hp : PF X.K X.mg r F) {σ : L2.St} {H : Hp} {Q : VK} (h : tDF X.K X.mg W (cAppF F cs) σ H Q) : tCB r (tDA X.K X.mg W cs) σ H Q := by
  obtain ⟨ι, env, S, hS, hE, q⟩ := h
  exact tDA.seqF hS hE q fun ι1 H1 vs ds S1 _ x1 s1 e1 r1 q1 => hp ι1 H1 S1 ds vs _ Q s1 r1 q1
theorem sf_bi {F : DFl} (hc : CallR X (.builtin id) r) (hp : PF X.K X.mg r F) (hm : X.mg x = none) (ha : SA X W (e :: es) cs) (hv : bootBuiltins x = some (.builtin id) := by decide +kernel) (hg : Gl X x := by rfl) (hn : x ≠ "__name__" := by decide) (hdb : (x == ("__debug__" : Str)) = false := by decide)
    (he : starEach (e :: es) X.env = (false, eval e X.env) :: starEach es X.env := by rfl) (hpl : (backTo pos (starEach es X.env)).any (·.1) = false := by rfl) : SF X W (.Call (.Name x p) (e :: es) [] pos) (cAppF F cs) :=
  PE.weak (pe_callB hc hg hm hv ha hn hdb he hpl) fun _ _ _ h => tF hp h
theorem sf_bt {F : DFl} (hc : CallR X (.type T) r) (hp : PF X.K X.mg r F) (hm : X.mg x = none) (ha : SA X W (e :: es) cs) (hv : bootBuiltins x = some (.type T) := by decide +kernel) (hg : Gl X x := by rfl) (hn : x ≠ "__name__" := by decide) (hdb : (x == ("__debug__" : Str)) = false := by decide)
    (he : starEach (e :: es) X.env = (false, eval e X.env) :: starEach es X.env := by rfl) (hpl : (backTo pos (starEach es X.env)).any (·.1) = false := by rfl) : SF X W (.Call (.Name x p) (e :: es) [] pos) (cAppF F cs) :=
  PE.weak (pe_callTy hc hg hm hv ha hn hdb he hpl) fun _ _ _ h => tF hp h
end

/-! ### len, int, abs, tuple, list, divmod, gcd -/
def fLen (xs : List D) (S : Sto) : Res D := match xs with
  | [x] => (match seqOf S x with
    | some ds => .ok (.int ds.length) S
    | none => (match x with
      | .str z => if z.length ≤ LIM then .ok (.int z.length) S else .bad
      | _ => .bad))
  | _ => .bad
def fInt (xs : List D) (S : Sto) : Res D := match xs with
  | [.int i] => .ok (.int i) S
  | [.bl b] => .ok (.int (if b then 1 else 0)) S
  | _ => .bad
def fAbs (xs : List D) (S : Sto) : Res D := match xs with
  | [.int i] => .ok (.int (if i < 0 then -i else i)) S
  | _ => .bad
def fTuple (xs : List D) (S : Sto) : Res D := match xs with
  | [.tup ds] => .ok (.tup ds) S
  | [x] => (match listOf S x with
    | some ds => .ok (.tup ds) S
    | none => .bad)
  | _ => .bad
def fList (xs : List D) (S : Sto) : Res (List D) := match xs with
  | [x] => (match seqOf S x with
    | some ds => .ok ds S
    | none => .bad)
  | _ => .bad
def fDivmod (xs : List D) (S : Sto) : Res D := match xs with
  | [.int i, .int j] => if 0 < j ∧ j < 1073741824 then .ok (.tup [.int (i / j), .int (i % j)]) S else .bad
  | _ => .bad
def fGcd (xs : List D) (S : Sto) : Res D := match xs with
  | [.int i, .int j] => .ok (.int ((Nat.gcd i.natAbs j.natAbs : Nat) : Int)) S
  | _ => .bad
def intsOf : List D → Option (List Int)
  | [] => some []
  | .int i :: r => (intsOf r).map fun is => i :: is
  | _ => none
def blsOf : List D → Option (List Bool)
  | [] => some []
  | .bl i :: r => (blsOf r).map fun is => i :: is
  | _ => none
theorem intsOf_some : ∀ {ds : List D} {is : List Int}, intsOf ds = some is → ds = is.map D.int
  | [], is, h => by cases h; rfl
  | d :: r, is, h => by
    cases d with
    | int i =>
      obtain ⟨js, h1, rfl⟩ := Option.map_eq_some_iff.mp (show (intsOf r).map (fun is => i :: is) = some is from h)
      rw [intsOf_some h1]
      rfl
    | _ => cases h
theorem blsOf_some : ∀ {ds : List D} {is : List Bool}, blsOf ds = some is → ds = is.map D.bl
  | [], is, h => by cases h; rfl
  | d :: r, is, h => by
    cases d with
    | bl i =>
      obtain ⟨js, h1, rfl⟩ := Option.map_eq_some_iff.mp (show (blsOf r).map (fun is => i :: is) = some is from h)
      rw [blsOf_some h1]
      rfl
    | _ => cases h
@[simp] theorem intsOf_map (is : List Int) : intsOf (is.map D.int) = some is := by
  induction is with
  | nil => rfl
  | cons i is ih =>
    show (intsOf (is.map D.int)).map (fun is => i :: is) = _
    rw [ih]
    rfl
@[simp] theorem blsOf_map (is : List Bool) : blsOf (is.map D.bl) = some is := by
  induction is with
  | nil => rfl
  | cons i is ih =>
    show (blsOf (is.map D.bl)).map (fun is => i :: is) = _
    rw [ih]
    rfl
def fSum (xs : List D) (S : Sto) : Res D := match xs with
  | [x] => (match (seqOf S x).bind intsOf with
    | some is => .ok (.int is.sum) S
    | none => .bad)
  | _ => .bad
def fAny (xs : List D) (S : Sto) : Res D := match xs with
  | [x] => (match (seqOf S x).bind blsOf with
    | some is => .ok (.bl (is.any id)) S
    | none => .bad)
  | _ => .bad
def fAll (xs : List D) (S : Sto) : Res D := match xs with
  | [x] => (match (seqOf S x).bind blsOf with
    | some is => .ok (.bl (is.all id)) S
    | none => .bad)
  | _ => .bad

section
variable {K : PySem.W.Frag} {mg : Str → Option Value} {ι : Nm} {H : Hp}
theorem RepL.one {d : D} {vs : List V} (h : RepL K mg ι H vs [d]) : ∃ v, vs = [v] ∧ RepV K mg ι H v d := by
  cases h with
  | cons a b =>
    cases b
    exact ⟨_, rfl, a⟩
theorem RepL.two {d e : D} {vs : List V} (h : RepL K mg ι H vs [d, e]) : ∃ v u, vs = [v, u] ∧ RepV K mg ι H v d ∧ RepV K mg ι H u e := by
  cases h with
  | cons a b =>
    cases b with
    | cons c d =>
      cases d
      exact ⟨_, _, rfl, a, c⟩
end
section
variable {X : Cx}
def rLenD (K : PySem.W.Frag) : List V → Hp → VK → Prop := fun xs H Q => (∃ p ys, xs = [.ref p] ∧ (SqL K H p ys ∨ SqT K H p ys) ∧ Q (.int ys.length) H) ∨ ∃ z, xs = [.str z] ∧ z.length ≤ sizeLine ∧ Q (.int z.length) H
theorem call_lenD : CallR X (.builtin "len") (rLenD X.K) := call_len_seq.or call_len_str
theorem p_len : PN X.K X.mg (rLenD X.K) fLen := by
  intro ι H S xs vs We Q hS rx q
  match xs, rx, q with
  | [], _, q => exact q.elim
  | _ :: _ :: _, _, q => exact q.elim
  | [x], rx, q =>
    obtain ⟨v, rfl, r⟩ := rx.one
    unfold fLen at q
    simp only at q
    cases e : seqOf S x with
    | some ds =>
      rw [e] at q
      obtain ⟨p, vs, rfl, hq, l⟩ := hS.seq r e
      exact .inl ⟨p, vs, rfl, hq, by rw [l.length]; exact Aft.done q hS (.int _)⟩
    | none =>
      rw [e] at q
      cases x with
      | str z =>
        cases r
        simp only at q
        split at q
        · rename_i hl
          exact .inr ⟨z, rfl, by rw [lim_eq]; exact hl, Aft.done q hS (.int _)⟩
        · exact q.elim
      | _ => exact q.elim
theorem p_int : PN X.K X.mg (fun xs H Q => (∃ i, xs = [.int i] ∧ Q (.int i) H) ∨ ∃ k, xs = [.bl k] ∧ Q (.int (if k then 1 else 0)) H) fInt := by
  intro ι H S xs vs We Q hS rx q
  match xs, rx, q with
  | [], _, q => exact q.elim
  | x :: y :: z, _, q =>
    have e : fInt (x :: y :: z) S = .bad := by cases x <;> rfl
    rw [e] at q
    exact q.elim
  | [x], rx, q =>
    obtain ⟨v, rfl, r⟩ := rx.one
    cases x with
    | int i =>
      cases r
      exact .inl ⟨i, rfl, Aft.done q hS (.int _)⟩
    | bl i =>
      cases r
      exact .inr ⟨i, rfl, Aft.done q hS (.int _)⟩
    | _ => exact q.elim
theorem p_abs : PN X.K X.mg (fun xs H Q => ∃ i, xs = [.int i] ∧ Q (.int (if i < 0 then -i else i)) H) fAbs := by
  intro ι H S xs vs We Q hS rx q
  unfold fAbs at q
  split at q
  · obtain ⟨v, rfl, r⟩ := rx.one
    cases r
    exact ⟨_, rfl, Aft.done q hS (.int _)⟩
  · exact q.elim
theorem p_tuple : PN X.K X.mg (fun xs H Q => ∃ p ys, xs = [.ref p] ∧ ((SqL X.K H p ys ∧ ∀ l, H l = none → Q (.ref l) (upd H l (.tup ys))) ∨ (SqT X.K H p ys ∧ Q (.ref p) H))) fTuple := by
  intro ι H S xs vs We Q hS rx q
  unfold fTuple at q
  split at q
  · obtain ⟨v, rfl, r⟩ := rx.one
    obtain ⟨p, vs, rfl, hq, l⟩ := r.sqT
    exact ⟨p, vs, rfl, .inr ⟨hq, Aft.done q hS r⟩⟩
  · rename_i x _
    obtain ⟨v, rfl, r⟩ := rx.one
    cases e : listOf S x with
    | none => rw [e] at q; exact q.elim
    | some ds =>
      rw [e] at q
      obtain ⟨p, vs, rfl, hq, l⟩ := hS.list r e
      exact ⟨p, vs, rfl, .inl ⟨hq, fun t ht => q ι _ _ (Ext.new ht) (hS.new ht) (.tup upd_same (hS.fresh ht) (l.ext (Ext.new ht)))⟩⟩
  · exact q.elim
theorem p_list : PF X.K X.mg (fun xs H Q => ∃ p ys, xs = [.ref p] ∧ (SqL X.K H p ys ∨ SqT X.K H p ys) ∧ ∀ l, H l = none → Q (.ref l) (upd H l (.lst ys))) fList := by
  intro ι H S xs vs We Q hS rx q
  unfold fList at q
  split at q
  · rename_i x
    obtain ⟨v, rfl, r⟩ := rx.one
    cases e : seqOf S x with
    | none => rw [e] at q; exact q.elim
    | some ds =>
      rw [e] at q
      obtain ⟨p, vs, rfl, hq, l⟩ := hS.seq r e
      exact ⟨p, vs, rfl, hq, q.lay hS l⟩
  · exact q.elim
theorem p_divmod : PN X.K X.mg (fun xs H Q => ∃ i j, xs = [.int i, .int j] ∧ CDiv i j ∧ ∀ p, H p = none → Q (.ref p) (upd H p (.tup [.int (i / j), .int (i % j)]))) fDivmod := by
  intro ι H S xs vs We Q hS rx q
  unfold fDivmod at q
  split at q
  · obtain ⟨v, u, rfl, r1, r2⟩ := rx.two
    cases r1
    cases r2
    split at q
    · rename_i hc
      exact ⟨_, _, rfl, hc, fun p hp => q ι _ _ (Ext.new hp) (hS.new hp) (.tup upd_same (hS.fresh hp) (.cons (.int _) (.cons (.int _) .nil)))⟩
    · exact q.elim
  · exact q.elim
theorem p_gcd : PN X.K X.mg rGcd fGcd := by
  intro ι H S xs vs We Q hS rx q
  unfold fGcd at q
  split at q
  · obtain ⟨v, u, rfl, r1, r2⟩ := rx.two
    cases r1
    cases r2
    exact ⟨_, _, rfl, Aft.done q hS (.int _)⟩
  · exact q.elim
/-! sum, any, all of a list or a tuple -/
def SqA (K : PySem.W.Frag) (H : Hp) (a : Addr) (xs : List V) : Prop := SqL K H a xs ∨ SqT K H a xs
/-- a walk over a list, a tuple -/
theorem iter_seq {pins : List (Addr × Obj)} {σ : L2.St} {H : Hp} {s : Shared} {A : Around} {E : Value → Shared → Prop} {a : Addr} {xs : List V} {Q : Value → Shared → Prop} (I : L2.Inv X pins σ H s) (hh : A.handled = none) (h : SqA X.K H a xs)
    (k : ∀ (s₂ : Shared) (o : Obj) (its : List Value) (St : Nat → Shared → Prop), Vals xs its → s₂ = { s with heap := s.heap.push o } →
      WalksS X.prog X.w A s.heap.objs.size [s.heap.objs.size, a] [s.heap.objs.size] (fun a b => b = a) its.length (fun i v => its[i]? = some v) St → St 0 s₂ → (∀ b ∈ [s.heap.objs.size, a], b < s₂.heap.objs.size) →
      (∀ b o, s.heap.get? b = some o → b ∉ [s.heap.objs.size]) → (∀ b o, s.heap.get? b = some o → s₂.heap.get? b = some o) → Q (.ref s.heap.objs.size) s₂) : wpAny (model X.prog X.w) A (pyIter (.ref a)) Q E s := by
  rcases h with h | h
  · obtain ⟨its, r, p, _⟩ := I.list h
    refine PySem.W.iter_listW hh p.isList fun s₂ e W st fp wr kp => ?_
    refine k s₂ _ its _ r e (by simpa using W) st fp wr kp
  · obtain ⟨its, r, p, _⟩ := I.tuple h
    refine PySem.W.iter_tupleW hh p fun s₂ e W st fp wr kp => ?_
    refine k s₂ _ its _ r e (by simpa using W) st fp wr kp
end
end DL
end

section
set_option Elab.async false
set_option linter.all false
set_option maxRecDepth 100000
set_option maxHeartbeats 4000000
set_option autoImplicit false
/-! sum, any, all, min, max, sorted, repr -/
namespace DL
open PySem PySem.Spec PyProof.Rows L2
section
variable {X : Cx}
def rSumA (K : PySem.W.Frag) : List V → Hp → VK → Prop := fun vs H Q => ∃ (a : Addr) (ns : List Int), vs = [V.ref a] ∧ SqA K H a (ns.map V.int) ∧ Q (.int ns.sum) H
def rAnyA (K : PySem.W.Frag) : List V → Hp → VK → Prop := fun vs H Q => ∃ (a : Addr) (bs : List Bool), vs = [V.ref a] ∧ SqA K H a (bs.map V.bl) ∧ Q (.bl (bs.any id)) H
def rAllA (K : PySem.W.Frag) : List V → Hp → VK → Prop := fun vs H Q => ∃ (a : Addr) (bs : List Bool), vs = [V.ref a] ∧ SqA K H a (bs.map V.bl) ∧ Q (.bl (bs.all id)) H
theorem ints_at {ns : List Int} {its : List Value} (h : Vals (ns.map V.int) its) (i : Nat) (v : Value) (e : its[i]? = some v) : ∃ t, v = .int (ns.getD i 0) t := by
  have hl := h.length
  rw [List.length_map] at hl
  have hi := (List.getElem?_eq_some_iff.mp e).1
  have e1 : (ns.map V.int)[i]? = some (.int (ns.getD i 0)) := by
    rw [List.getElem?_map, List.getElem?_eq_getElem (by omega), List.getD_eq_getElem?_getD, List.getElem?_eq_getElem (by omega)]
    rfl
  obtain ⟨u, h1, t, h2⟩ := h.get e1
  rw [e] at h1
  cases h1
  exact ⟨t, h2⟩
theorem preSum_list : ∀ (ns : List Int), preSum (fun i => ns.getD i 0) ns.length = ns.sum := fun ns => by
  have key : ∀ k, k ≤ ns.length → preSum (fun i => ns.getD i 0) k = (ns.take k).sum := by
    intro k
    induction k with
    | zero => intro _; rfl
    | succ k ih =>
      intro hk
      show preSum (fun i => ns.getD i 0) k + ns.getD k 0 = _
      rw [ih (by omega), List.take_add_one, List.sum_append, List.getElem?_eq_getElem (by omega), List.getD_eq_getElem?_getD, List.getElem?_eq_getElem (by omega)]
      simp
  rw [key _ (Nat.le_refl _), List.take_length]
theorem moved_inv {pins : List (Addr × Obj)} {σ : L2.St} {H : Hp} {s s₂ s' : Shared} {o : Obj} (I : L2.Inv X pins σ H s) (e : s₂ = { s with heap := s.heap.push o }) (m : Moved [s.heap.objs.size] (fun a b => b = a) s₂ s') : L2.Inv X pins σ H s' := by
  obtain ⟨h', tk, rfl, k⟩ := PySem.W.moved_old e rfl m
  exact I.kept k
theorem cr_sumA (hc : X.calm = true) : CallR X (.builtin "sum") (rSumA X.K) := by
  intro pins s σ H vs us Q I r h
  obtain ⟨a, ns, rfl, hs, q⟩ := h
  rw [Vals.ref1 r]
  refine call_sum_walkAnyS (iter_seq (A := X.A.in1) I (I.ok.hd hc) hs fun s₂ o its St rv e W st fp wr kp => ?_)
  refine ⟨_, _, _, _, _, _, _, fun i => ns.getD i 0, rfl, W, st, fp, fun i v h => ints_at rv i v h, fun s' t' m => ?_⟩
  have hl := rv.length
  rw [List.length_map] at hl
  rw [← hl, preSum_list]
  have I' := moved_inv I e m
  exact ⟨.int _, H, I', ⟨_, rfl⟩, q⟩
theorem bls_its : ∀ {bs : List Bool} {its : List Value}, Vals (bs.map V.bl) its → its = bs.map Value.bool
  | [], _, h => by cases h; rfl
  | b :: bs, _, h => by
    cases h with
    | cons r t =>
      cases r
      rw [bls_its t]
      rfl
theorem truth_bl {bs : List Bool} {its : List Value} {A : Around} (h : Vals (bs.map V.bl) its) : TruthOf X.prog X.w A (fun i v => its[i]? = some v) (fun i => bs.getD i false) := by
  have := truth_bools (prog := X.prog) (w := X.w) (A := A) (bls_its h)
  simpa using this
theorem cr_anyA (hc : X.calm = true) : CallR X (.builtin "any") (rAnyA X.K) := by
  intro pins s σ H vs us Q I r h
  obtain ⟨a, bs, rfl, hs, q⟩ := h
  rw [Vals.ref1 r]
  refine call_any_walkS (iter_seq (A := X.A.in1) I (I.ok.hd hc) hs fun s₂ o its St rv e W st fp wr kp => ?_)
  refine ⟨_, _, _, _, _, _, _, _, rfl, W, st, truth_bl rv, fun s' m => ?_⟩
  have hl := rv.length
  rw [List.length_map] at hl
  rw [← hl, L2.any_range]
  exact ⟨.bl _, H, moved_inv I e m, rfl, q⟩
theorem cr_allA (hc : X.calm = true) : CallR X (.builtin "all") (rAllA X.K) := by
  intro pins s σ H vs us Q I r h
  obtain ⟨a, bs, rfl, hs, q⟩ := h
  rw [Vals.ref1 r]
  refine call_all_walkS (iter_seq (A := X.A.in1) I (I.ok.hd hc) hs fun s₂ o its St rv e W st fp wr kp => ?_)
  refine ⟨_, _, _, _, _, _, _, _, rfl, W, st, truth_bl rv, fun s' m => ?_⟩
  have hl := rv.length
  rw [List.length_map] at hl
  rw [← hl, L2.all_range]
  exact ⟨.bl _, H, moved_inv I e m, rfl, q⟩
theorem p_sum : PN X.K X.mg (rSumA X.K) fSum := by
  intro ι H S xs vs We Q hS rx q
  unfold fSum at q
  split at q
  · rename_i x
    obtain ⟨v, rfl, r⟩ := rx.one
    cases e : (seqOf S x).bind intsOf with
    | none => rw [e] at q; exact q.elim
    | some is =>
      rw [e] at q
      obtain ⟨ds, e1, e2⟩ := Option.bind_eq_some_iff.mp e
      obtain ⟨p, vs, rfl, hq, l⟩ := hS.seq r e1
      have e3 := intsOf_some e2
      subst e3
      rw [l.ints] at hq
      exact ⟨p, is, rfl, hq, Aft.done q hS (.int _)⟩
  · exact q.elim
theorem p_any : PN X.K X.mg (rAnyA X.K) fAny := by
  intro ι H S xs vs We Q hS rx q
  unfold fAny at q
  split at q
  · rename_i x
    obtain ⟨v, rfl, r⟩ := rx.one
    cases e : (seqOf S x).bind blsOf with
    | none => rw [e] at q; exact q.elim
    | some is =>
      rw [e] at q
      obtain ⟨ds, e1, e2⟩ := Option.bind_eq_some_iff.mp e
      obtain ⟨p, vs, rfl, hq, l⟩ := hS.seq r e1
      have e3 := blsOf_some e2
      subst e3
      rw [l.bls] at hq
      exact ⟨p, is, rfl, hq, Aft.done q hS (.bl _)⟩
  · exact q.elim
theorem p_all : PN X.K X.mg (rAllA X.K) fAll := by
  intro ι H S xs vs We Q hS rx q
  unfold fAll at q
  split at q
  · rename_i x
    obtain ⟨v, rfl, r⟩ := rx.one
    cases e : (seqOf S x).bind blsOf with
    | none => rw [e] at q; exact q.elim
    | some is =>
      rw [e] at q
      obtain ⟨ds, e1, e2⟩ := Option.bind_eq_some_iff.mp e
      obtain ⟨p, vs, rfl, hq, l⟩ := hS.seq r e1
      have e3 := blsOf_some e2
      subst e3
      rw [l.bls] at hq
      exact ⟨p, is, rfl, hq, Aft.done q hS (.bl _)⟩
  · exact q.elim
end

/-! ### alike data: min, max, sorted -/
def encD (d : D) : PyData := (py0 d).getD .none
def nonN : PyData → Bool
  | .none => false
  | _ => true
def alikeB (ds : List D) : Bool := (ds.all fun d => (py0 d).isSome && decide ((encD d).depth ≤ 40)) && ds.all fun d => ds.all fun e => PySem.W.alike (encD d) (encD e)
def minD1 (a y : D) : D := if PySem.W.dataLt (encD y) (encD a) then y else a
def maxD1 (a y : D) : D := if PySem.W.dataLt (encD a) (encD y) then y else a
def minDs (d : D) (ds : List D) : D := ds.foldl minD1 d
def maxDs (d : D) (ds : List D) : D := ds.foldl maxD1 d
theorem alikeB_py {ds : List D} (h : alikeB ds = true) : ∀ d ∈ ds, ∃ p, py0 d = some p ∧ encD d = p ∧ p.depth ≤ 40 := fun d hd => by
  unfold alikeB at h
  rw [Bool.and_eq_true, List.all_eq_true] at h
  have h1 := h.1 d hd
  rw [Bool.and_eq_true, decide_eq_true_eq] at h1
  obtain ⟨p, hp⟩ := Option.isSome_iff_exists.mp h1.1
  have e : encD d = p := by unfold encD; rw [hp]; rfl
  exact ⟨p, hp, e, by rw [← e]; exact h1.2⟩
theorem alikeB_al {ds : List D} (h : alikeB ds = true) : ∀ d ∈ ds, ∀ e ∈ ds, PySem.W.alike (encD d) (encD e) = true := fun d hd e he => by
  unfold alikeB at h
  rw [Bool.and_eq_true, List.all_eq_true, List.all_eq_true] at h
  exact List.all_eq_true.mp (h.2 d hd) e he
section
variable {X : Cx}
/-- the items read as their data -/
theorem reads_at {pins : List (Addr × Obj)} {σ : L2.St} {H : Hp} {s : Shared} {mg : Str → Option Value} {ι : Nm} {vs : List V} {ds : List D} {its : List Value} (I : L2.Inv X pins σ H s) (hz : alikeB ds = true) (l : RepL X.K mg ι H vs ds) (r : Vals vs its) (i : Nat) (v : Value) (e : its[i]? = some v) :
    ∃ d x as, ds[i]? = some d ∧ d ∈ ds ∧ vs[i]? = some x ∧ RelV x v ∧ RepV X.K mg ι H x d ∧ Reads s.heap v (encD d) as ∧ (encD d).depth ≤ 40 := by
  have hi := (List.getElem?_eq_some_iff.mp e).1
  have hl := r.length
  obtain ⟨x, hx⟩ : ∃ x, vs[i]? = some x := ⟨vs[i]'(by omega), List.getElem?_eq_getElem (by omega)⟩
  obtain ⟨u, h1, h2⟩ := r.get hx
  rw [e] at h1
  cases h1
  obtain ⟨d, hd, hv⟩ := l.getV hx
  have hm := List.mem_of_getElem? hd
  obtain ⟨p, h3, h4, h5⟩ := alikeB_py hz d hm
  obtain ⟨as, hr⟩ := Dp.reads I p x v (RepV.dp d x p hv h3) h2
  exact ⟨d, x, as, hd, hm, hx, h2, hv, by rw [h4]; exact hr, by rw [h4]; exact h5⟩
theorem cmp_lt {pins : List (Addr × Obj)} {σ : L2.St} {H : Hp} {s : Shared} {mg : Str → Option Value} {ι : Nm} {vs : List V} {ds : List D} {its : List Value} (I : L2.Inv X pins σ H s) (hz : alikeB ds = true) (hn : ∀ d ∈ ds, nonN (encD d) = true) (l : RepL X.K mg ι H vs ds) (r : Vals vs its) {A : Around} (hu : A.units + 50 < cLine) :
    CmpIn X.prog X.w A .Lt s.heap (fun i v => its[i]? = some v) (fun i j => PySem.W.dataLt (encD (ds.getD i .non)) (encD (ds.getD j .non))) := fun i j vi vj s' Q E hk hi hj hq => by
  obtain ⟨d1, x1, as1, e1, m1, _, _, _, r1, z1⟩ := reads_at I hz l r i vi hi
  obtain ⟨d2, x2, as2, e2, m2, _, _, _, r2, z2⟩ := reads_at I hz l r j vj hj
  have g1 : ds.getD i .non = d1 := by rw [List.getD_eq_getElem?_getD, e1]; rfl
  have g2 : ds.getD j .non = d2 := by rw [List.getD_eq_getElem?_getD, e2]; rfl
  have hq : Q (.bool (PySem.W.dataLt (encD (ds.getD i .non)) (encD (ds.getD j .non)))) s' := hq
  rw [g1, g2] at hq
  refine PySem.W.rcLt_alike _ _ A s' vi vj _ _ (PySem.W.reads_keeps hk r1) (PySem.W.reads_keeps hk r2) (alikeB_al hz d1 m1 d2 m2) (fun e => ?_) ?_ X.prog X.w E Q hq
  · have := hn d1 m1
    rw [e] at this
    cases this
  · have := Nat.min_le_left (encD d1).depth (encD d2).depth
    omega
theorem cmp_gt {pins : List (Addr × Obj)} {σ : L2.St} {H : Hp} {s : Shared} {mg : Str → Option Value} {ι : Nm} {vs : List V} {ds : List D} {its : List Value} (I : L2.Inv X pins σ H s) (hz : alikeB ds = true) (hn : ∀ d ∈ ds, nonN (encD d) = true) (l : RepL X.K mg ι H vs ds) (r : Vals vs its) {A : Around} (hu : A.units + 50 < cLine) :
    CmpIn X.prog X.w A .Gt s.heap (fun i v => its[i]? = some v) (fun i j => PySem.W.dataLt (encD (ds.getD j .non)) (encD (ds.getD i .non))) := fun i j vi vj s' Q E hk hi hj hq => by
  obtain ⟨d1, x1, as1, e1, m1, _, _, _, r1, z1⟩ := reads_at I hz l r i vi hi
  obtain ⟨d2, x2, as2, e2, m2, _, _, _, r2, z2⟩ := reads_at I hz l r j vj hj
  have g1 : ds.getD i .non = d1 := by rw [List.getD_eq_getElem?_getD, e1]; rfl
  have g2 : ds.getD j .non = d2 := by rw [List.getD_eq_getElem?_getD, e2]; rfl
  have hq : Q (.bool (PySem.W.dataLt (encD (ds.getD j .non)) (encD (ds.getD i .non)))) s' := hq
  rw [g1, g2] at hq
  refine PySem.W.rcGt_alike _ _ A s' vi vj _ _ (PySem.W.reads_keeps hk r1) (PySem.W.reads_keeps hk r2) (alikeB_al hz d1 m1 d2 m2) (fun e => ?_) ?_ X.prog X.w E Q hq
  · have := hn d1 m1
    rw [e] at this
    cases this
  · have := Nat.min_le_left (encD d1).depth (encD d2).depth
    omega
/-- min, max of two ints, of a sequence of alike data -/
def rMinA (K : PySem.W.Frag) (mg : Str → Option Value) (b : D → List D → D) (g : Int → Int → Int) : List V → Hp → VK → Prop := fun vs H Q => (∃ i j, vs = [.int i, .int j] ∧ Q (.int (g i j)) H) ∨
  ∃ (a : Addr) (ws : List V) (d : D) (ds : List D) (ι : Nm), vs = [V.ref a] ∧ SqA K H a ws ∧ RepL K mg ι H ws (d :: ds) ∧ alikeB (d :: ds) = true ∧ (∀ e ∈ d :: ds, nonN (encD e) = true) ∧ ∀ v, RepV K mg ι H v (b d ds) → Q v H
theorem cr_minA (mg : Str → Option Value) (hc : X.calm = true) (hu : Roomy X) : CallR X (.builtin "min") (rMinA X.K mg minDs fun i j => if j < i then j else i) := by
  intro pins s σ H vs us Q I r h
  rcases h with ⟨i, j, e, q⟩ | ⟨a, ws, d, ds, ι, rfl, hs, l, hz, hn, q⟩
  · exact call_min2 hc pins s σ H vs us Q I r ⟨i, j, e, q⟩
  · rw [Vals.ref1 r]
    refine call_min_walkH (iter_seq (A := X.A.in1) I (I.ok.hd hc) hs fun s₂ o its St rv e W st fp wr kp => ?_)
    have hl := rv.length
    have hl2 := l.length
    refine ⟨_, _, _, _, _, _, _, s.heap, _, rfl, W, st, fp, by rw [← hl, hl2]; exact Nat.succ_pos _, wr, kp, cmp_lt I hz hn l rv (A := X.A.in1) (by show X.A.units + 1 + 50 < cLine; unfold Roomy at hu; omega), fun v s' hP m => ?_⟩
    have e1 : its.length - 1 = ds.length := by rw [← hl, hl2]; rfl
    obtain ⟨e2, e3⟩ := PySem.W.argBest_fold (fun x y => PySem.W.dataLt (encD x) (encD y)) D.non d ds ds.length (Nat.le_refl _)
    rw [List.take_length] at e3
    have hP : its[argBest (fun i j => PySem.W.dataLt (encD ((d :: ds).getD i .non)) (encD ((d :: ds).getD j .non))) (its.length - 1)]? = some v := hP
    rw [e1] at hP
    obtain ⟨d1, x1, as1, g1, m1, g2, g3, g4, r1, z1⟩ := reads_at I hz l rv _ v hP
    have g5 : d1 = minDs d ds := by
      have z : (d :: ds).getD (argBest (fun i j => PySem.W.dataLt (encD ((d :: ds).getD i .non)) (encD ((d :: ds).getD j .non))) ds.length) .non = d1 := by
        rw [List.getD_eq_getElem?_getD, g1]; rfl
      rw [← z]
      exact e3
    exact ⟨x1, H, moved_inv I e m, g3, q x1 (by rw [← g5]; exact g4)⟩
theorem cr_maxA (mg : Str → Option Value) (hc : X.calm = true) (hu : Roomy X) : CallR X (.builtin "max") (rMinA X.K mg maxDs fun i j => if j > i then j else i) := by
  intro pins s σ H vs us Q I r h
  rcases h with ⟨i, j, e, q⟩ | ⟨a, ws, d, ds, ι, rfl, hs, l, hz, hn, q⟩
  · exact call_max2 hc pins s σ H vs us Q I r ⟨i, j, e, q⟩
  · rw [Vals.ref1 r]
    refine call_max_walkH (iter_seq (A := X.A.in1) I (I.ok.hd hc) hs fun s₂ o its St rv e W st fp wr kp => ?_)
    have hl := rv.length
    have hl2 := l.length
    refine ⟨_, _, _, _, _, _, _, s.heap, _, rfl, W, st, fp, by rw [← hl, hl2]; exact Nat.succ_pos _, wr, kp, cmp_gt I hz hn l rv (A := X.A.in1) (by show X.A.units + 1 + 50 < cLine; unfold Roomy at hu; omega), fun v s' hP m => ?_⟩
    have e1 : its.length - 1 = ds.length := by rw [← hl, hl2]; rfl
    obtain ⟨e2, e3⟩ := PySem.W.argBest_fold (fun x y => PySem.W.dataLt (encD y) (encD x)) D.non d ds ds.length (Nat.le_refl _)
    rw [List.take_length] at e3
    have hP : its[argBest (fun i j => PySem.W.dataLt (encD ((d :: ds).getD j .non)) (encD ((d :: ds).getD i .non))) (its.length - 1)]? = some v := hP
    rw [e1] at hP
    obtain ⟨d1, x1, as1, g1, m1, g2, g3, g4, r1, z1⟩ := reads_at I hz l rv _ v hP
    have g5 : d1 = maxDs d ds := by
      have z : (d :: ds).getD (argBest (fun i j => PySem.W.dataLt (encD ((d :: ds).getD j .non)) (encD ((d :: ds).getD i .non))) ds.length) .non = d1 := by
        rw [List.getD_eq_getElem?_getD, g1]; rfl
      rw [← z]
      exact e3
    exact ⟨x1, H, moved_inv I e m, g3, q x1 (by rw [← g5]; exact g4)⟩
def fMM (b : D → List D → D) (g : Int → Int → Int) (xs : List D) (S : Sto) : Res D := match xs with
  | [.int i, .int j] => .ok (.int (g i j)) S
  | [x] => (match seqOf S x with
    | some (d :: ds) => if (alikeB (d :: ds) && (d :: ds).all fun e => nonN (encD e)) = true then .ok (b d ds) S else .bad
    | _ => .bad)
  | _ => .bad
abbrev fMin : DFn := fMM minDs fun i j => if j < i then j else i
abbrev fMax : DFn := fMM maxDs fun i j => if j > i then j else i
theorem p_mm {b : D → List D → D} {g : Int → Int → Int} : PN X.K X.mg (rMinA X.K X.mg b g) (fMM b g) := by
  intro ι H S xs vs We Q hS rx q
  unfold fMM at q
  split at q
  · obtain ⟨v, u, rfl, r1, r2⟩ := rx.two
    cases r1
    cases r2
    exact .inl ⟨_, _, rfl, Aft.done q hS (.int _)⟩
  · rename_i x
    obtain ⟨v, rfl, r⟩ := rx.one
    split at q
    · rename_i d ds e
      split at q
      · rename_i hz
        rw [Bool.and_eq_true, List.all_eq_true] at hz
        obtain ⟨p, vs, rfl, hq, l⟩ := hS.seq r e
        exact .inr ⟨p, vs, d, ds, ι, rfl, hq, l, hz.1, hz.2, fun v hv => Aft.done q hS hv⟩
      · exact q.elim
    · exact q.elim
  · exact q.elim

/-! sorted -/
def tupN : PyData → Bool
  | .tuple (_ :: _) => true
  | _ => false
def notT : PyData → Bool
  | .none => false
  | .tuple _ => false
  | _ => true
def sortB (ds : List D) : Bool := alikeB ds && ((ds.all fun d => tupN (encD d)) || ds.all fun d => notT (encD d))
def sortD (rev : Bool) (ds : List D) : List D := ds.mergeSort (PySem.W.dataLe rev encD)
theorem each_of {mg : Str → Option Value} {ι : Nm} {H : Hp} : ∀ {vs : List V} {ds : List D} {its : List Value}, RepL X.K mg ι H vs ds → Vals vs its → PySem.W.EachIs (fun u d => ∃ v, RelV v u ∧ RepV X.K mg ι H v d) its ds
  | [], _, _, l, r => by
    cases r
    have := l.length
    rw [show _ = [] from List.eq_nil_of_length_eq_zero this.symm]
    exact .nil
  | v :: vs, [], _, l, r => by cases l
  | v :: vs, d :: ds, _, l, r => by
    cases l with
    | cons a b =>
      cases r with
      | cons c e => exact .cons ⟨v, c, a⟩ (each_of b e)
theorem of_each {mg : Str → Option Value} {ι : Nm} {H : Hp} : ∀ {ds : List D} {its : List Value}, PySem.W.EachIs (fun u d => ∃ v, RelV v u ∧ RepV X.K mg ι H v d) its ds → ∃ vs, RepL X.K mg ι H vs ds ∧ Vals vs its
  | _, _, .nil => ⟨[], .nil, .nil⟩
  | _, _, .cons ⟨v, h1, h2⟩ t => by
    obtain ⟨vs, a, b⟩ := of_each t
    exact ⟨v :: vs, .cons h2 a, .cons h1 b⟩
theorem each_reads {pins : List (Addr × Obj)} {σ : L2.St} {H : Hp} {s : Shared} {mg : Str → Option Value} {ι : Nm} (I : L2.Inv X pins σ H s) : ∀ {ds : List D} {its : List Value}, (∀ d ∈ ds, ∃ p, py0 d = some p ∧ encD d = p ∧ p.depth ≤ 40) → PySem.W.EachIs (fun u d => ∃ v, RelV v u ∧ RepV X.K mg ι H v d) its ds → PySem.W.EachIs (fun u d => ∃ as, Reads s.heap u (encD d) as) its ds
  | _, _, _, .nil => .nil
  | _, _, hz, .cons ⟨v, h1, h2⟩ t => by
    obtain ⟨p, e1, e2, _⟩ := hz _ List.mem_cons_self
    obtain ⟨as, hr⟩ := Dp.reads I p v _ (RepV.dp _ v p h2 e1) h1
    exact .cons ⟨as, by rw [e2]; exact hr⟩ (each_reads I (fun d hd => hz d (List.mem_cons_of_mem _ hd)) t)
theorem sortB_ok {ds : List D} (h : sortB ds = true) : alikeB ds = true ∧ PySem.W.AllAlike (ds.map encD) ∧ PySem.W.Sortable (ds.map encD) := by
  unfold sortB at h
  rw [Bool.and_eq_true, Bool.or_eq_true, List.all_eq_true, List.all_eq_true] at h
  refine ⟨h.1, fun p hp p' hp' => ?_, ?_⟩
  · obtain ⟨d, hd, rfl⟩ := List.mem_map.mp hp
    obtain ⟨e, he, rfl⟩ := List.mem_map.mp hp'
    exact alikeB_al h.1 d hd e he
  · rcases h.2 with h2 | h2
    · refine .inl fun p hp => ?_
      obtain ⟨d, hd, rfl⟩ := List.mem_map.mp hp
      have := h2 d hd
      revert this
      cases encD d with
      | tuple xs =>
        cases xs with
        | nil => exact fun z => absurd z Bool.false_ne_true
        | cons x r => exact fun _ => ⟨x, r, rfl⟩
      | _ => exact fun z => absurd z Bool.false_ne_true
    · refine .inr fun p hp => ?_
      obtain ⟨d, hd, rfl⟩ := List.mem_map.mp hp
      have := h2 d hd
      revert this
      cases encD d with
      | tuple xs => exact fun z => absurd z Bool.false_ne_true
      | none => exact fun z => absurd z Bool.false_ne_true
      | _ => exact fun _ => ⟨fun z => (by cases z), fun xs z => (by cases z)⟩
def rSortA (K : PySem.W.Frag) (mg : Str → Option Value) (rev : Bool) : List V → Hp → VK → Prop := fun vs H Q => ∃ (a : Addr) (ws : List V) (ds : List D) (ι : Nm), vs = [V.ref a] ∧ SqL K H a ws ∧ RepL K mg ι H ws ds ∧ sortB ds = true ∧
  ∀ us p, RepL K mg ι H us (sortD rev ds) → H p = none → Q (.ref p) (upd H p (.lst us))
theorem cr_sortA (mg : Str → Option Value) (hu : Roomy X) : CallR X (.builtin "sorted") (rSortA X.K mg false) := by
  intro pins s σ H vs us Q I r h
  obtain ⟨a, ws, ds, ι, rfl, hs, l, hz, q⟩ := h
  rw [Vals.ref1 r]
  obtain ⟨its, rv, hl, hsz⟩ := I.list hs
  obtain ⟨z1, z2, z3⟩ := sortB_ok hz
  have E := each_of l rv
  have hlen : ws.length = ds.length := l.length
  refine PySem.W.sorted_data (enc := encD) hl.isList E (each_reads I (alikeB_py z1) E) z2 z3 (by rw [← hlen]; exact hsz) (fun b hb => ?_) fun out h1 h2 => ?_
  · obtain ⟨p, _, e2, e3⟩ := alikeB_py z1 b hb
    rw [e2]
    unfold Roomy at hu
    omega
  · obtain ⟨us, k1, k2⟩ := of_each h2
    obtain ⟨ep, he'⟩ := PyProof.Rows.sortedAll_at s.heap its out.toArray
    have hul : us.length ≤ sizeLine := by
      rw [k1.length]
      show (ds.mergeSort _).length ≤ _
      rw [List.length_mergeSort, ← hlen]
      exact hsz
    exact ⟨.ref _, upd H (s.heap.objs.size + 1) (.lst us), I.laid (t' := s.toks) (fun _ _ => PyProof.Rows.sortedAll_old) (Nat.le_succ _) ⟨hul, out, ep, k2, he'⟩, rfl, q us _ k1 (I.hok.fresh (Nat.le_succ _))⟩
theorem cr_sortR (mg : Str → Option Value) (hu : Roomy X) : CallRK X (.builtin "sorted") ["reverse"] (fun vs zs H Q => ∃ b, zs = [V.bl b] ∧ rSortA X.K mg b vs H Q) := by
  intro pins s σ H vs us zs ws' Q I r rz h
  obtain ⟨b, rfl, a, ws, ds, ι, rfl, hs, l, hz, q⟩ := h
  rw [Vals.ref1 r]
  obtain ⟨its, rv, hl, hsz⟩ := I.list hs
  obtain ⟨z1, z2, z3⟩ := sortB_ok hz
  have E := each_of l rv
  have hlen : ws.length = ds.length := l.length
  obtain ⟨u1, rfl, ru⟩ := vals1 rz
  cases (show u1 = Value.bool b from ru)
  refine PySem.W.sorted_rev_data (enc := encD) hl.isList E (each_reads I (alikeB_py z1) E) z2 z3 (by rw [← hlen]; exact hsz) (fun b hb => ?_) fun out h1 h2 => ?_
  · obtain ⟨p, _, e2, e3⟩ := alikeB_py z1 b hb
    rw [e2]
    unfold Roomy at hu
    omega
  · obtain ⟨us, k1, k2⟩ := of_each h2
    obtain ⟨ep, he'⟩ := PyProof.Rows.sortedAll_at s.heap its out.toArray
    have hul : us.length ≤ sizeLine := by
      rw [k1.length]
      show (ds.mergeSort _).length ≤ _
      rw [List.length_mergeSort, ← hlen]
      exact hsz
    exact ⟨.ref _, upd H (s.heap.objs.size + 1) (.lst us), I.laid (t' := s.toks) (fun _ _ => PyProof.Rows.sortedAll_old) (Nat.le_succ _) ⟨hul, out, ep, k2, he'⟩, rfl, q us _ k1 (I.hok.fresh (Nat.le_succ _))⟩
def fSorted (rev : Bool) (xs : List D) (S : Sto) : Res (List D) := match xs with
  | [x] => (match listOf S x with
    | some ds => if sortB ds = true then .ok (sortD rev ds) S else .bad
    | none => .bad)
  | _ => .bad
theorem p_sort {rev : Bool} : PF X.K X.mg (rSortA X.K X.mg rev) (fSorted rev) := by
  intro ι H S xs vs We Q hS rx q
  unfold fSorted at q
  split at q
  · rename_i x
    obtain ⟨v, rfl, r⟩ := rx.one
    cases e : listOf S x with
    | none => rw [e] at q; exact q.elim
    | some ds =>
      rw [e] at q
      simp only at q
      split at q
      · rename_i hz
        obtain ⟨p, vs, rfl, hq, l⟩ := hS.list r e
        exact ⟨p, vs, ds, ι, rfl, hq, l, hz, fun us p k hp => q.lay hS k p hp⟩
      · exact q.elim
  · exact q.elim
end
end DL
end

section
set_option Elab.async false
set_option linter.all false
set_option maxRecDepth 100000
set_option maxHeartbeats 4000000
set_option autoImplicit false
/-! loops, comprehensions -/
namespace DL
open PySem PySem.Spec PyProof.Rows L2

/-- an item, no more, or nothing that is known -/
inductive Cur where
  | it (d : D) | stop | bad
def Cur.of : Option D → Cur
  | some d => .it d
  | none => .stop
/-- what one walks along: n bounds the turns; cur tells the item of a turn -/
structure Src where
  n : Nat
  cur : Sto → Nat → Cur
def Src.fix (ds : List D) : Src := ⟨ds.length, fun _ i => Cur.of ds[i]?⟩
def Src.cel (k n : Nat) : Src := ⟨n, fun S i => match S[k]? with
  | some (.lst ds) => Cur.of ds[i]?
  | _ => .bad⟩
def Src.celE (k n : Nat) : Src := ⟨n, fun S i => match S[k]? with
  | some (.lst ds) => match ds[i]? with
    | some d => .it (.tup [.int i, d])
    | none => .stop
  | _ => .bad⟩
theorem of_it {o : Option D} {d : D} (h : Cur.of o = .it d) : o = some d := by cases o <;> cases h; rfl
theorem of_stop {o : Option D} (h : Cur.of o = .stop) : o = none := by cases o <;> first | rfl | cases h
section
variable (K : PySem.W.Frag) (mg : Str → Option Value) (W : WX)
def ItOk (ι0 : Nm) (H0 : Hp) (J : It) (src : Src) : Prop := ∀ ι H S, Mo ι0 H0 ι H → SimS K mg ι H S → ∀ i,
  (∀ d, src.cur S i = .it d → J.go i H ∧ ∀ x H', J.yld i H x H' → ∃ ι', Ext ι H ι' H' ∧ SimS K mg ι' H' S ∧ RepV K mg ι' H' x d) ∧ (src.cur S i = .stop → J.stop i H)
def tDI (c : Env → Sto → Res Src) : TI := fun σ H R => ∃ ι env S, SimS K mg ι H S ∧ RepE K mg ι H σ env ∧ Aft K mg (ItOk K mg) (fun cls dd H' => W cls dd σ H') ι H (c env S) R
end
abbrev SI (X : Cx) (W : WX) (tg it : Expr) (c : Env → Sto → Res Src) : Prop := PI X tg it (tDI X.K X.mg W c)
theorem PI.weak {X : Cx} {tg e : Expr} {t t' : TI} (h : PI X tg e t) (k : ∀ σ H R, t' σ H R → t σ H R) : PI X tg e t' := ⟨fun pins s σ H Q I q => h.run pins s σ H Q I (k _ _ _ q)⟩
theorem PI.or {X : Cx} {tg e : Expr} {t t' : TI} (h : PI X tg e t) (h' : PI X tg e t') : PI X tg e (fun σ H R => t σ H R ∨ t' σ H R) := ⟨fun pins s σ H Q I q => by
  rcases q with q | q
  · exact h.run pins s σ H Q I q
  · exact h'.run pins s σ H Q I q⟩
section
variable {K : PySem.W.Frag} {mg : Str → Option Value} {W : WX} {ι ι' : Nm} {H H' : Hp} {S : Sto} {σ : L2.St} {env : Env}
theorem Mo.trans {ι1 ι2 : Nm} {H1 H2 : Hp} (a : Mo ι H ι1 H1) (b : Mo ι1 H1 ι2 H2) : Mo ι H ι2 H2 := ⟨fun n c h => b.get n c (a.get n c h), fun c o h t n => by
  obtain ⟨h1, n1⟩ := a.keep c o h t n
  exact b.keep c o h1 t n1⟩
theorem ItOk.mo {J : It} {src : Src} (h : ItOk K mg ι H J src) (x : Mo ι H ι' H') : ItOk K mg ι' H' J src := fun ι2 H2 S m hS i => h ι2 H2 S (x.trans m) hS i
/-- what a list, a tuple is stays -/
def Sty (K : PySem.W.Frag) (mg : Str → Option Value) (Sq : Hp → Addr → List V → Prop) (ι : Nm) (H : Hp) (a : Addr) (ds : List D) : Prop := ∃ vs, RepL K mg ι H vs ds ∧ ∀ ι2 H2, Mo ι H ι2 H2 → Sq H2 a vs
theorem Mo.refl : Mo ι H ι H := (Ext.refl ι H).mo
theorem sty_lst {v : V} {ds : List D} (r : RepV K mg ι H v (.lst ds)) : ∃ a, v = .ref a ∧ Sty K mg (SqL K) ι H a ds := by
  cases r with
  | lst q n l => exact ⟨_, rfl, _, l, fun ι2 H2 m => .inl (.inl (m.keep _ _ q (fun ps z => by cases z) n).1)⟩
theorem sty_kls {v : V} {ds : List D} (r : RepV K mg ι H v (.kls ds)) : ∃ a, v = .ref a ∧ Sty K mg (SqL K) ι H a ds := by
  cases r with
  | kls q n l => exact ⟨_, rfl, _, l, fun ι2 H2 m => .inl (Rd.mo m q n).1⟩
  | klsK k l => exact ⟨_, rfl, _, l, fun ι2 H2 m => .inr k⟩
theorem sty_tup {v : V} {ds : List D} (r : RepV K mg ι H v (.tup ds)) : ∃ a, v = .ref a ∧ Sty K mg (SqT K) ι H a ds := by
  cases r with
  | tup q n l => exact ⟨_, rfl, _, l, fun ι2 H2 m => .inl (.inl (m.keep _ _ q (fun ps z => by cases z) n).1)⟩
theorem Sty.now {Sq : Hp → Addr → List V → Prop} {a : Addr} {ds : List D} (h : Sty K mg Sq ι H a ds) : ∃ vs, Sq H a vs ∧ RepL K mg ι H vs ds := by
  obtain ⟨vs, l, q⟩ := h
  exact ⟨vs, q ι H Mo.refl, l⟩
theorem itok_l {a : Addr} {ds : List D} (h : Sty K mg (SqL K) ι H a ds) : ItOk K mg ι H (Itl K a) (.fix ds) := fun ι2 H2 S m hS i => by
  obtain ⟨vs, l, q⟩ := h
  have q2 := q ι2 H2 m
  refine ⟨fun d e => ?_, fun e => ?_⟩
  · obtain ⟨v, h1, h2⟩ := l.get (of_it e)
    refine ⟨⟨_, v, q2, h1⟩, fun x H' y => ?_⟩
    obtain ⟨rfl, y⟩ := y
    have := y _ q2
    rw [h1] at this
    cases this
    exact ⟨ι2, Ext.refl _ _, hS, RepV.mo m _ _ h2⟩
  · refine ⟨_, q2, ?_⟩
    rw [l.length]
    exact List.getElem?_eq_none_iff.mp (of_stop e)
theorem itok_t {a : Addr} {ds : List D} (h : Sty K mg (SqT K) ι H a ds) : ItOk K mg ι H (Itt K a) (.fix ds) := fun ι2 H2 S m hS i => by
  obtain ⟨vs, l, q⟩ := h
  have q2 := q ι2 H2 m
  refine ⟨fun d e => ?_, fun e => ?_⟩
  · obtain ⟨v, h1, h2⟩ := l.get (of_it e)
    refine ⟨⟨_, v, q2, h1⟩, fun x H' y => ?_⟩
    obtain ⟨rfl, y⟩ := y
    have := y _ q2
    rw [h1] at this
    cases this
    exact ⟨ι2, Ext.refl _ _, hS, RepV.mo m _ _ h2⟩
  · refine ⟨_, q2, ?_⟩
    rw [l.length]
    exact List.getElem?_eq_none_iff.mp (of_stop e)
theorem cel_at {k i : Nat} {S2 : Sto} {a : Addr} {ι2 : Nm} {H2 : Hp} (hS2 : SimS K mg ι2 H2 S2) (hn : ι2.ns[k]? = some a) {ds : List D} (e : S2[k]? = some (.lst ds)) : ∃ vs, SqL K H2 a vs ∧ RepL K mg ι2 H2 vs ds := by
  obtain ⟨vs, q, l⟩ := hS2.at_ _ _ _ e hn
  exact ⟨vs, .inl (.inl q), l⟩
theorem itok_cel {k n : Nat} {a : Addr} (hn : ι.ns[k]? = some a) : ItOk K mg ι H (Itl K a) (.cel k n) := fun ι2 H2 S2 m hS2 i => by
  have hn2 := m.get _ _ hn
  cases e : S2[k]? with
  | none => exact ⟨fun d h => by simp [Src.cel, e] at h, fun h => by simp [Src.cel, e] at h⟩
  | some c =>
    cases c with
    | ins _ _ _ => exact ⟨fun d h => by simp [Src.cel, e] at h, fun h => by simp [Src.cel, e] at h⟩
    | dct _ _ => exact ⟨fun d h => by simp [Src.cel, e] at h, fun h => by simp [Src.cel, e] at h⟩
    | lst ds =>
      obtain ⟨vs2, q2, l2⟩ := cel_at (i := i) hS2 hn2 e
      refine ⟨fun d h => ?_, fun h => ?_⟩
      · simp only [Src.cel, e] at h
        obtain ⟨v, h1, h2⟩ := l2.get (of_it h)
        refine ⟨⟨_, v, q2, h1⟩, fun x H' y => ?_⟩
        obtain ⟨rfl, y⟩ := y
        have := y _ q2
        rw [h1] at this
        cases this
        exact ⟨ι2, Ext.refl _ _, hS2, h2⟩
      · simp only [Src.cel, e] at h
        refine ⟨_, q2, ?_⟩
        rw [l2.length]
        exact List.getElem?_eq_none_iff.mp (of_stop h)
/-- numbers in a row -/
def rngL (lo : Int) (n : Nat) : List D := (List.range n).map fun i : Nat => D.int (lo + (i : Int))
theorem rngL_len (lo : Int) (n : Nat) : (rngL lo n).length = n := by simp [rngL]
theorem rngL_get {lo : Int} {n i : Nat} (h : i < n) : (rngL lo n)[i]? = some (.int (lo + i)) := by simp [rngL, h]
theorem itok_r {lo : Int} {n : Nat} : ItOk K mg ι H (Itr lo n) (.fix (rngL lo n)) := fun ι2 H2 S m hS i => by
  refine ⟨fun d e => ?_, fun e => ?_⟩
  · have e := of_it e
    have hi : i < n := by
      have := (List.getElem?_eq_some_iff.mp e).1
      rwa [rngL_len] at this
    rw [rngL_get hi] at e
    cases e
    refine ⟨hi, fun x H' y => ?_⟩
    obtain ⟨rfl, rfl⟩ := y
    exact ⟨ι2, Ext.refl _ _, hS, .int _⟩
  · have := List.getElem?_eq_none_iff.mp (of_stop e)
    rwa [rngL_len] at this
/-- pairs with numbers -/
def enumL : Nat → List D → List D
  | _, [] => []
  | i, d :: ds => .tup [.int i, d] :: enumL (i + 1) ds
theorem enumL_get : ∀ (ds : List D) (k i : Nat), (enumL k ds)[i]? = ds[i]?.map fun d => .tup [.int ((k + i : Nat) : Int), d]
  | [], k, i => by simp [enumL]
  | d :: ds, k, 0 => by simp [enumL]
  | d :: ds, k, i + 1 => by
    show (enumL (k + 1) ds)[i]? = _
    rw [enumL_get ds (k + 1) i, show k + 1 + i = k + (i + 1) by omega]
    rfl
theorem enumL_len : ∀ (ds : List D) (k : Nat), (enumL k ds).length = ds.length
  | [], _ => rfl
  | d :: ds, k => by simp [enumL, enumL_len ds]
theorem pair_new {T : Addr} {x : V} {d : D} {i : Nat} (hT : H T = none) (hS : SimS K mg ι H S) (r : RepV K mg ι H x d) : Ext ι H ι (upd H T (.tup [.int (i : Nat), x])) ∧ SimS K mg ι (upd H T (.tup [.int (i : Nat), x])) S ∧ RepV K mg ι (upd H T (.tup [.int (i : Nat), x])) (.ref T) (.tup [.int (i : Nat), d]) :=
  ⟨Ext.new hT, hS.new hT, .tup upd_same (hS.fresh hT) (.cons (.int _) (.cons (r.ext (Ext.new hT)) .nil))⟩
theorem itok_el {a : Addr} {ds : List D} (h : Sty K mg (SqL K) ι H a ds) : ItOk K mg ι H (Ite K a) (.fix (enumL 0 ds)) := fun ι2 H2 S m hS i => by
  obtain ⟨vs, l, q⟩ := h
  have q2 := q ι2 H2 m
  refine ⟨fun d e => ?_, fun e => ?_⟩
  · have e := of_it e
    rw [enumL_get] at e
    obtain ⟨d', e', rfl⟩ := Option.map_eq_some_iff.mp e
    obtain ⟨v, h1, h2⟩ := l.get e'
    refine ⟨⟨_, v, q2, h1⟩, fun x H' y => ?_⟩
    obtain ⟨T, x, rfl, hT, rfl, y⟩ := y
    have := y _ q2
    rw [h1] at this
    cases this
    rw [Nat.zero_add]
    exact ⟨ι2, pair_new hT hS (RepV.mo m _ _ h2)⟩
  · refine ⟨_, q2, ?_⟩
    rw [l.length]
    have := List.getElem?_eq_none_iff.mp (of_stop e)
    rwa [enumL_len] at this
theorem itok_ec {k n : Nat} {a : Addr} (hn : ι.ns[k]? = some a) : ItOk K mg ι H (Ite K a) (.celE k n) := fun ι2 H2 S2 m hS2 i => by
  have hn2 := m.get _ _ hn
  cases e : S2[k]? with
  | none => exact ⟨fun d h => by simp [Src.celE, e] at h, fun h => by simp [Src.celE, e] at h⟩
  | some c =>
    cases c with
    | ins _ _ _ => exact ⟨fun d h => by simp [Src.celE, e] at h, fun h => by simp [Src.celE, e] at h⟩
    | dct _ _ => exact ⟨fun d h => by simp [Src.celE, e] at h, fun h => by simp [Src.celE, e] at h⟩
    | lst ds =>
      obtain ⟨vs2, q2, l2⟩ := cel_at (i := i) hS2 hn2 e
      refine ⟨fun d h => ?_, fun h => ?_⟩
      · simp only [Src.celE, e] at h
        cases z : ds[i]? with
        | none => rw [z] at h; cases h
        | some d' =>
          rw [z] at h
          cases h
          obtain ⟨v, h1, h2⟩ := l2.get z
          refine ⟨⟨_, v, q2, h1⟩, fun x H' y => ?_⟩
          obtain ⟨T, x, rfl, hT, rfl, y⟩ := y
          have := y _ q2
          rw [h1] at this
          cases this
          exact ⟨ι2, pair_new hT hS2 h2⟩
      · simp only [Src.celE, e] at h
        refine ⟨_, q2, ?_⟩
        rw [l2.length]
        cases z : ds[i]? with
        | none => exact List.getElem?_eq_none_iff.mp z
        | some d' => rw [z] at h; cases h
/-- pairs of two -/
def zipL : List D → List D → List D
  | a :: as, b :: bs => .tup [a, b] :: zipL as bs
  | _, _ => []
theorem zipL_get : ∀ (as bs : List D) (i : Nat) (d : D), (zipL as bs)[i]? = some d → ∃ a b, as[i]? = some a ∧ bs[i]? = some b ∧ d = .tup [a, b]
  | [], bs, i, d, h => by simp [zipL] at h
  | a :: as, [], i, d, h => by simp [zipL] at h
  | a :: as, b :: bs, 0, d, h => by simp [zipL] at h; exact ⟨a, b, rfl, rfl, h.symm⟩
  | a :: as, b :: bs, i + 1, d, h => by
    obtain ⟨x, y, h1, h2, e⟩ := zipL_get as bs i d (by simpa [zipL] using h)
    exact ⟨x, y, by simpa using h1, by simpa using h2, e⟩
theorem zipL_stop : ∀ (as bs : List D) (i : Nat), (zipL as bs)[i]? = none → as.length ≤ i ∨ bs.length ≤ i
  | [], bs, i, h => .inl (Nat.zero_le _)
  | a :: as, [], i, h => .inr (Nat.zero_le _)
  | a :: as, b :: bs, 0, h => by simp [zipL] at h
  | a :: as, b :: bs, i + 1, h => by
    rcases zipL_stop as bs i (by simpa [zipL] using h) with z | z
    · exact .inl (Nat.succ_le_succ z)
    · exact .inr (Nat.succ_le_succ z)
theorem pair_new2 {T : Addr} {x y : V} {d e : D} (hT : H T = none) (hS : SimS K mg ι H S) (r : RepV K mg ι H x d) (r2 : RepV K mg ι H y e) : Ext ι H ι (upd H T (.tup [x, y])) ∧ SimS K mg ι (upd H T (.tup [x, y])) S ∧ RepV K mg ι (upd H T (.tup [x, y])) (.ref T) (.tup [d, e]) :=
  ⟨Ext.new hT, hS.new hT, .tup upd_same (hS.fresh hT) (.cons (r.ext (Ext.new hT)) (.cons (r2.ext (Ext.new hT)) .nil))⟩
theorem itok_zt {a b : Addr} {as bs : List D} (h : Sty K mg (SqT K) ι H a as) (h' : Sty K mg (SqT K) ι H b bs) : ItOk K mg ι H (RZ.ItzT K a b) (.fix (zipL as bs)) := fun ι2 H2 S m hS i => by
  obtain ⟨vs, l, q⟩ := h
  obtain ⟨us, l', q'⟩ := h'
  have q2 := q ι2 H2 m
  have q2' := q' ι2 H2 m
  refine ⟨fun d e => ?_, fun e => ?_⟩
  · obtain ⟨d1, d2, e1, e2, rfl⟩ := zipL_get _ _ _ _ (of_it e)
    obtain ⟨v, h1, h2⟩ := l.get e1
    obtain ⟨u, h1', h2'⟩ := l'.get e2
    refine ⟨⟨_, _, v, u, q2, q2', h1, h1'⟩, fun x H' y => ?_⟩
    obtain ⟨T, x, y, rfl, hT, rfl, y1, y2⟩ := y
    have t1 := y1 _ q2
    have t2 := y2 _ q2'
    rw [h1] at t1
    rw [h1'] at t2
    cases t1
    cases t2
    exact ⟨ι2, pair_new2 hT hS (RepV.mo m _ _ h2) (RepV.mo m _ _ h2')⟩
  · refine ⟨_, _, q2, q2', ?_⟩
    rw [l.length, l'.length]
    exact zipL_stop _ _ _ (of_stop e)
theorem itok_zl {a b : Addr} {as bs : List D} (h : Sty K mg (SqL K) ι H a as) (h' : Sty K mg (SqL K) ι H b bs) : ItOk K mg ι H (Itz K a b) (.fix (zipL as bs)) := fun ι2 H2 S m hS i => by
  obtain ⟨vs, l, q⟩ := h
  obtain ⟨us, l', q'⟩ := h'
  have q2 := q ι2 H2 m
  have q2' := q' ι2 H2 m
  refine ⟨fun d e => ?_, fun e => ?_⟩
  · obtain ⟨d1, d2, e1, e2, rfl⟩ := zipL_get _ _ _ _ (of_it e)
    obtain ⟨v, h1, h2⟩ := l.get e1
    obtain ⟨u, h1', h2'⟩ := l'.get e2
    refine ⟨⟨_, _, v, u, q2, q2', h1, h1'⟩, fun x H' y => ?_⟩
    obtain ⟨T, x, y, rfl, hT, rfl, y1, y2⟩ := y
    have t1 := y1 _ q2
    have t2 := y2 _ q2'
    rw [h1] at t1
    rw [h1'] at t2
    cases t1
    cases t2
    exact ⟨ι2, pair_new2 hT hS (RepV.mo m _ _ h2) (RepV.mo m _ _ h2')⟩
  · refine ⟨_, _, q2, q2', ?_⟩
    rw [l.length, l'.length]
    exact zipL_stop _ _ _ (of_stop e)
end

theorem RepV.int_ {K : PySem.W.Frag} {mg : Str → Option Value} {ι : Nm} {H : Hp} {v : V} {i : Int} (r : RepV K mg ι H v (.int i)) : v = .int i := by cases r; rfl
/-! ### the sources, as written -/
def srcOf : D → Sto → Res Src
  | .tup ds, S => .ok (.fix ds) S
  | .lst ds, S => .ok (.fix ds) S
  | .kls ds, S => .ok (.fix ds) S
  | .cel k, S => match S[k]? with
    | some (.lst ds) => .ok (.cel k ds.length) S
    | _ => .bad
  | _, _ => .bad
def iSeq (c : DEn) : Env → Sto → Res Src := fun env S => (c env S).bind srcOf
def iRng1D (a : DAn) : Env → Sto → Res Src := fun env S => (a env S).bind fun ds S1 => match ds with
  | [.int j] => if -(2 ^ 62) ≤ j ∧ j < 2 ^ 62 then .ok (.fix (rngL 0 j.toNat)) S1 else .bad
  | _ => .bad
def iRng2D (a : DAn) : Env → Sto → Res Src := fun env S => (a env S).bind fun ds S1 => match ds with
  | [.int i, .int j] => if -(2 ^ 62) ≤ i ∧ i < 2 ^ 62 ∧ -(2 ^ 62) ≤ j ∧ j < 2 ^ 62 then .ok (.fix (rngL i (j - i).toNat)) S1 else .bad
  | _ => .bad
def iZipD (a : DAn) : Env → Sto → Res Src := fun env S => (a env S).bind fun ds S1 => match ds with
  | [.tup as, .tup bs] => .ok (.fix (zipL as bs)) S1
  | [.lst as, .lst bs] => .ok (.fix (zipL as bs)) S1
  | _ => .bad
def enumOf : D → Sto → Res Src
  | .tup ds, S => .ok (.fix (enumL 0 ds)) S
  | .lst ds, S => .ok (.fix (enumL 0 ds)) S
  | .kls ds, S => .ok (.fix (enumL 0 ds)) S
  | .cel k, S => match S[k]? with
    | some (.lst ds) => .ok (.celE k ds.length) S
    | _ => .bad
  | _, _ => .bad
def iEnumD (a : DAn) : Env → Sto → Res Src := fun env S => (a env S).bind fun ds S1 => match ds with
  | [d] => enumOf d S1
  | _ => .bad
section
variable {X : Cx} {W : WX} {tg e a b : Expr} {es : List Expr} {pos : Pos} {ce ca cb : DEn} {cs : DAn}
/-- the value of a source, by its kind -/
theorem Aft.src {K : PySem.W.Frag} {mg : Str → Option Value} {We : WE} {ι : Nm} {H : Hp} {S : Sto} {v : V} {d : D} {R : It → Hp → Prop} (hS : SimS K mg ι H S) (r : RepV K mg ι H v d) (q : Aft K mg (ItOk K mg) We ι H (srcOf d S) R) :
    (∃ a, v = .ref a ∧ (∃ xs, SqL K H a xs) ∧ R (Itl K a) H) ∨ (∃ a, v = .ref a ∧ (∃ xs, SqT K H a xs) ∧ R (Itt K a) H) := by
  cases d with
  | tup ds =>
    obtain ⟨a, rfl, h⟩ := sty_tup r
    obtain ⟨vs, s1, _⟩ := h.now
    exact .inr ⟨a, rfl, ⟨vs, s1⟩, Aft.done q hS (itok_t h)⟩
  | lst ds =>
    obtain ⟨a, rfl, h⟩ := sty_lst r
    obtain ⟨vs, s1, _⟩ := h.now
    exact .inl ⟨a, rfl, ⟨vs, s1⟩, Aft.done q hS (itok_l h)⟩
  | kls ds =>
    obtain ⟨a, rfl, h⟩ := sty_kls r
    obtain ⟨vs, s1, _⟩ := h.now
    exact .inl ⟨a, rfl, ⟨vs, s1⟩, Aft.done q hS (itok_l h)⟩
  | cel k =>
    cases r with
    | @cel _ a hn =>
      cases e : S[k]? with
      | none => simp only [srcOf, e] at q; exact q.elim
      | some c =>
        cases c with
        | ins _ _ _ => simp only [srcOf, e] at q; exact q.elim
        | dct _ _ => simp only [srcOf, e] at q; exact q.elim
        | lst ds =>
          simp only [srcOf, e] at q
          obtain ⟨vs, q1, l⟩ := hS.at_ _ _ _ e hn
          exact .inl ⟨_, rfl, ⟨vs, .inl (.inl q1)⟩, Aft.done q hS (itok_cel hn)⟩
  | _ => exact q.elim
theorem si_seq (h : SE X W e ce) : SI X W tg e (iSeq ce) := PI.weak (PI.or (pi_list h) (pi_tup h)) fun σ H R h => by
  obtain ⟨ι, env, S, hS, hE, q⟩ := h
  by_cases z : ∃ ds S1, ce env S = .ok (.tup ds) S1
  · obtain ⟨ds, S1, z⟩ := z
    refine .inr (tD.seq hS hE q fun ι1 H1 v d S2 e x s _ r q => ?_)
    rw [z] at e
    cases e
    obtain ⟨a, rfl, h⟩ := sty_tup r
    obtain ⟨vs, s1, _⟩ := h.now
    exact ⟨a, rfl, ⟨vs, s1⟩, Aft.done q s (itok_t h)⟩
  · refine .inl (tD.seq hS hE q fun ι1 H1 v d S2 e x s _ r q => ?_)
    rcases Aft.src s r q with y | ⟨a, rfl, hv, hr⟩
    · exact y
    · cases d with
      | tup ds => exact absurd ⟨ds, S2, e⟩ z
      | lst ds =>
        obtain ⟨a, ea, h⟩ := sty_lst r
        obtain ⟨vs, s1, _⟩ := h.now
        exact ⟨a, ea, ⟨vs, s1⟩, Aft.done q s (itok_l h)⟩
      | kls ds =>
        obtain ⟨a, ea, h⟩ := sty_kls r
        obtain ⟨vs, s1, _⟩ := h.now
        exact ⟨a, ea, ⟨vs, s1⟩, Aft.done q s (itok_l h)⟩
      | cel k =>
        cases r with
        | @cel _ a hn =>
          cases e : S2[k]? with
          | none => simp only [srcOf, e] at q; exact q.elim
          | some c =>
            cases c with
            | ins _ _ _ => simp only [srcOf, e] at q; exact q.elim
            | dct _ _ => simp only [srcOf, e] at q; exact q.elim
            | lst ds =>
              simp only [srcOf, e] at q
              obtain ⟨vs, q1, l⟩ := s.at_ _ _ _ e hn
              exact ⟨_, rfl, ⟨vs, .inl (.inl q1)⟩, Aft.done q s (itok_cel hn)⟩
      | _ => exact q.elim
theorem si_rng1 {p pos : Pos} (hg : Gl X "range") (hm : X.mg "range" = none) (ha : SA X W [a] cs) (hs : starEach [a] X.env = [(false, eval a X.env)] := by rfl) : SI X W tg (.Call (.Name "range" p) [a] [] pos) (iRng1D cs) := PI.weak (pi_range1 hg hm ha hs) fun σ H R h => by
  obtain ⟨ι, env, S, hS, hE, q⟩ := h
  refine tDA.seq hS hE q fun ι1 H1 vs ds S1 _ x s _ r q => ?_
  split at q
  · obtain ⟨v, rfl, r1⟩ := r.one
    obtain rfl := r1.int_
    split at q
    · rename_i hb
      exact ⟨_, rfl, hb.1, hb.2, Aft.done q s itok_r⟩
    · exact q.elim
  · exact q.elim
theorem si_rng2 {p pos : Pos} (hg : Gl X "range") (hm : X.mg "range" = none) (ha : SA X W [a, b] cs) (hs : starEach [a, b] X.env = [(false, eval a X.env), (false, eval b X.env)] := by rfl) (hs2 : starEach [b] X.env = [(false, eval b X.env)] := by rfl) :
    SI X W tg (.Call (.Name "range" p) [a, b] [] pos) (iRng2D cs) := PI.weak (pi_range2 hg hm ha hs hs2) fun σ H R h => by
  obtain ⟨ι, env, S, hS, hE, q⟩ := h
  refine tDA.seq hS hE q fun ι1 H1 vs ds S1 _ x s _ r q => ?_
  split at q
  · obtain ⟨v, u, rfl, r1, r2⟩ := r.two
    cases r1
    cases r2
    split at q
    · rename_i hb
      exact ⟨_, _, rfl, hb, Aft.done q s itok_r⟩
    · exact q.elim
  · exact q.elim
theorem si_zip {p pos tpos : Pos} {elts : List Expr} {kk : Nat} (hg : Gl X "zip") (hm : X.mg "zip" = none) (ha : SA X W [a, b] cs)
    (hs : starEach [a, b] X.env = (false, eval a X.env) :: starEach [b] X.env := by rfl) (hpl : (backTo pos (starEach [b] X.env)).any (·.1) = false := by rfl) :
    SI X W (.Tuple elts kk tpos) (.Call (.Name "zip" p) [a, b] [] pos) (iZipD cs) := PI.weak (RZ.pi_zipA hg hm ha hs hpl) fun σ H R h => by
  obtain ⟨ι, env, S, hS, hE, q⟩ := h
  refine tDA.seq hS hE q fun ι1 H1 vs ds S1 _ x s _ r q => ?_
  split at q
  · obtain ⟨v, u, rfl, r1, r2⟩ := r.two
    obtain ⟨a, rfl, h⟩ := sty_tup r1
    obtain ⟨b, rfl, h'⟩ := sty_tup r2
    obtain ⟨xs, s1, _⟩ := h.now
    obtain ⟨ys, s2, _⟩ := h'.now
    exact ⟨a, b, xs, ys, rfl, .inr ⟨s1, s2, Aft.done q s (itok_zt h h')⟩⟩
  · obtain ⟨v, u, rfl, r1, r2⟩ := r.two
    obtain ⟨a, rfl, h⟩ := sty_lst r1
    obtain ⟨b, rfl, h'⟩ := sty_lst r2
    obtain ⟨xs, s1, _⟩ := h.now
    obtain ⟨ys, s2, _⟩ := h'.now
    exact ⟨a, b, xs, ys, rfl, .inl ⟨s1, s2, Aft.done q s (itok_zl h h')⟩⟩
  · exact q.elim
end
end DL
end

section
set_option Elab.async false
set_option linter.all false
set_option maxRecDepth 100000
set_option maxHeartbeats 4000000
set_option autoImplicit false
/-! enumerate(x) over a tuple -/
namespace DL
open PySem PySem.Spec PyProof.Rows L2
open AutoSeq1 (wpAny_loadPart')

theorem meets_enumB {v : Value} {o : Obj} {H : Heap → Prop} (B : Begins v o H) :
    Meets (Builtin.«enumerate.__new__» ⟨[.type "enumerate", v], []⟩) (fun _ R s => H s.heap ∧
      R (.ok (.ret (.ref (s.heap.push o).objs.size))) { s with heap := (s.heap.push o).push { cls := .type "enumerate", data := .fields #[.none, .bool false, .ref s.heap.objs.size, rawInt 0, .none, .none] } }) :=
  .of_wp fun prog w A R s h => by
    obtain ⟨hp, g, d, tk, os⟩ := s; obtain ⟨h1, h⟩ := h
    have hsub := sub_enumerate
    have q1 : ∀ {A' : Around} {E : Value → Shared → Prop} {Q : Value → Shared → Prop}, Q (.ref hp.objs.size) ⟨hp.push o, g, d, tk, os⟩ → wpAny (model prog w) A' (pyIter v) Q E ⟨hp, g, d, tk, os⟩ :=
      fun q => B.iter prog w _ _ ⟨hp, g, d, tk, os⟩ _ h1 q
    wp_walk using q1
    refine wpAny_stack_any fun st => wpAny_pure ?_
    split
    · rename_i c _ _ _ _ _
      cases (c == Value.type "enumerate")
      · wp_walk using q1
        exact ⟨_, rfl, h⟩
      · wp_walk using q1
        exact ⟨_, rfl, h⟩
    · wp_walk using q1
      exact ⟨_, rfl, h⟩
section
variable {prog : Program} {w : World} {A : Around} {E : Value → Shared → Prop} {s : Shared}
theorem enum_begins1 {v : Value} {o : Obj} {H : Heap → Prop} {Q : Value → Shared → Prop} (B : Begins v o H) (h1 : H s.heap) (hty : checkTypeCall "enumerate" ⟨[v], []⟩ = pure ()) (hnw : checkBuiltinCall "enumerate.__new__" ⟨[.type "enumerate", v], []⟩ = pure ())
    (h : ∀ h', IsEnum h' (s.heap.objs.size + 1) s.heap.objs.size 0 .none → h'.get? s.heap.objs.size = some o → h'.objs.size = s.heap.objs.size + 2 →
      (∀ b o, s.heap.get? b = some o → h'.get? b = some o) → Q (.ref (s.heap.objs.size + 1)) { s with heap := h' }) :
    wpAny (model prog w) A (call (.type "enumerate") [v]) Q E s := by
  refine callType_new F.called_enumerate (by decide) hty hnw (fun obj => F.args_object_init_2 obj _) F.entry_enumerate_new
    (meets_enumB B) ⟨h1, ?_⟩
  have hz : (s.heap.push o).objs.size = s.heap.objs.size + 1 := Heap.size_push ..
  show _ ∧ _
  rw [hz]
  have he : IsEnum ((s.heap.push o).push { cls := .type "enumerate", data := .fields #[.none, .bool false, .ref s.heap.objs.size, rawInt 0, .none, .none] }) (s.heap.objs.size + 1) s.heap.objs.size 0 .none := by
    have := Heap.get?_push_size (s.heap.push o) (o := { cls := .type "enumerate", data := .fields #[.none, .bool false, .ref s.heap.objs.size, rawInt 0, .none, .none] }) rfl
    rw [hz] at this; exact this
  exact ⟨⟨_, he, rfl⟩, h _ he (Heap.get?_push_of_some _ (Heap.get?_push_size _ B.free)) (by rw [Heap.size_push, hz]) fun b o x => Heap.get?_push_of_some _ (Heap.get?_push_of_some _ x)⟩
end
theorem enum_end_t {prog : Program} {w : World} {A : Around} {E : Value → Shared → Prop} {s : Shared} {e it l : Addr} {i : Nat} {j : Int} {items : Array Value} {old : Value} {Q : Option Value → Shared → Prop} (hh : A.handled = none)
    (he : IsEnum s.heap e it j old) (hit : s.heap.IsTupleIter it l i) (hl : s.heap.IsTuple l items) (hx : items[i]? = none)
    (hQ : ∀ h', Heap.ExtBut it s.heap h' → Q none { s with heap := h' }) : wpAny (model prog w) A (pyNext (.ref e)) Q E s := by
  have hT : s.TypeIs (.ref e) "enumerate" := ⟨_, he, rfl⟩
  unfold pyNext
  refine wpAny_bind (wpAny_attempt (wpAny_callSpecial?_slot (name := Str.ofString "__next__") hT F.slot_enumerate_next
    (wpAny_call_entry F.slot_enumerate_next hT F.entry_enumerate_next ?_ (F.args_enumerate_next_1 _))))
  show wpAny _ _ (field (.ref e) 2 >>= _) _ _ _
  refine wpAny_bind (wpAny_field he rfl (x := .ref it) rfl ?_)
  refine wpAny_bind (wpAny_nextOf_tuple_end hh hit hl hx fun h' x he' hx' => ?_)
  obtain ⟨o, ho, hc⟩ := hx'
  refine wpAny_bind (wpAny_isInstance (T := "StopIteration") (b := true) ⟨o, ho, hc⟩ isSubtype_stop ?_)
  exact wpAny_pure (hQ _ he')
/-- the tuple at a at each turn, each item in a new pair -/
def IteT (K : PySem.W.Frag) (a : Addr) : It :=
  ⟨fun i H => ∃ (xs : List V) (x : V), SqT K H a xs ∧ xs[i]? = some x, fun i H v H' => ∃ T x, v = .ref T ∧ H T = none ∧ H' = upd H T (.tup [.int (i : Nat), x]) ∧ ∀ xs, SqT K H a xs → xs[i]? = some x, fun i H => ∃ xs : List V, SqT K H a xs ∧ xs.length ≤ i⟩
theorem turn_enumT {P : Program} {w : World} {K : PySem.W.Frag} {elts : List Expr} {kk : Nat} {tpos : Pos} (a e it : Addr) :
    Turn P w K (.Tuple elts kk tpos) (IteT K a) [e, it] e (fun i h => (∃ old, IsEnum h e it ((i : Nat) : Int) old) ∧ h.IsTupleIter it a i ∧ e ≠ it) where
  mem := by simp
  obj := fun i h st b hb => by
    obtain ⟨⟨old, he⟩, ⟨o, ho, hc, hd⟩, _⟩ := st
    have e' : b = e ∨ b = it := by simpa using hb
    rcases e' with z | z
    · rw [z]; exact ⟨_, he, fun v q => nomatch q⟩
    · rw [z]; exact ⟨o, ho, fun v q => by rw [hd] at q; cases q⟩
  keep := fun i h h' st k => let ⟨⟨old, he⟩, hi, hne⟩ := st; ⟨⟨old, k e (by simp) _ he⟩, hi.at fun o q => k it (by simp) o q, hne⟩
  item := by
    intro X hP hw hK hc i pins s σ H E I hf st hg
    subst hP hw hK
    obtain ⟨⟨old, he⟩, hit, hne⟩ := st
    obtain ⟨xs, x, hq, hx⟩ := hg
    obtain ⟨its, rv, p, hz⟩ := I.tuple hq
    obtain ⟨u, hu, ru⟩ := rv.get hx
    have hel : e < s.heap.objs.size := Heap.lt_size he
    have hil : it < s.heap.objs.size := by obtain ⟨_, q, _⟩ := hit; exact Heap.lt_size q
    have pt : s.heap.IsTuple a its.toArray := p
    have hai : a ≠ it := fun z => by
      obtain ⟨o1, e1, c1, _⟩ := pt
      obtain ⟨o2, e2, c2, _⟩ := hit
      rw [z, e2] at e1
      cases e1
      rw [c2] at c1
      exact absurd c1 (by decide)
    have hae : a ≠ e := fun z => by
      obtain ⟨o1, e1, c1, _⟩ := pt
      rw [z, he] at e1
      cases e1
      exact absurd c1 (show ¬ (Value.type "enumerate" = Value.type "tuple") by decide)
    have hh : X.A.in1.handled = none := I.ok.hd hc
    have D := Draws.tuple (prog := X.prog) (w := X.w) hh it a hai its.toArray
    have hlt : i < its.toArray.size := by
      have := (List.getElem?_eq_some_iff.mp hu).1
      simpa using this
    refine wpAny_pyNext_enum_itemD D he ⟨hit, pt⟩ hlt hne (by simp [hne, Ne.symm hae]) fun x2 h' tk hP ho hit' hT hsz hk => ?_
    have ex : x2 = u := by
      have hP : its.toArray[i]? = some x2 := hP
      rw [List.getElem?_toArray, hu] at hP
      cases hP
      rfl
    subst ex
    refine ⟨_, rfl, wpAny_letOwnedTupleGo_enum (s := { s with heap := h', toks := tk + 1 }) ho fun h'' he' sb => ?_⟩
    have hT2 : h''.get? s.heap.objs.size = some { cls := .type "tuple", data := .seq #[.int i tk, x2] } := (sb.2 _ (Nat.ne_of_gt hel)).trans hT
    have new : ObjOk X.prog X.w (upd H s.heap.objs.size (.tup [.int (i : Nat), x])) h'' s.heap.objs.size (.tup [.int (i : Nat), x]) :=
      ⟨by show 2 ≤ sizeLine; decide, [.int i tk, x2], .cons ⟨_, rfl⟩ (.cons ru .nil), ⟨_, hT2, rfl, _, rfl⟩⟩
    have I1 : L2.Inv X pins σ (upd H s.heap.objs.size (.tup [.int (i : Nat), x])) { s with heap := h'', toks := tk + 1 } :=
      I.turnedNew (ch := [e, it]) (fun b ob hb q => (sb.2 b (fun z => hb (by simp [z]))).trans (hk b ob (fun z => hb (by simp [z])) (fun z => hb (by simp [z])) q)) hf (Nat.le_refl _) new
    refine ⟨.ref s.heap.objs.size, _, I1, rfl, ⟨_, x, rfl, I.hok.fresh (Nat.le_refl _), rfl, fun ys hy => by rw [I.tuple_inj hy hq]; exact hx⟩, ⟨⟨x2, ?_⟩, hit'.1.at fun o q => (sb.2 it (Ne.symm hne)).trans q, hne⟩, fun b hb => ?_⟩
    · have e1 : ((i + 1 : Nat) : Int) = (i : Int) + 1 := by omega
      rw [e1]; exact he'
    · have hb' : b < s.heap.objs.size := by
        have e' : b = e ∨ b = it := by simpa using hb
        rcases e' with z | z
        · rw [z]; exact hel
        · rw [z]; exact hil
      rw [upd_ne (Nat.ne_of_lt hb')]
      exact (hf b hb).1
  done := by
    intro X hP hw hK hc i pins s σ H E I hf st hg
    subst hP hw hK
    obtain ⟨⟨old, he⟩, hit, hne⟩ := st
    obtain ⟨xs, hq, hx⟩ := hg
    obtain ⟨its, rv, p, hz⟩ := I.tuple hq
    obtain ⟨f0, f1, f2, f3, f4, f5⟩ := hf it (by simp)
    have hl := rv.length
    have pt : s.heap.IsTuple a its.toArray := p
    have hh : X.A.in1.handled = none := I.ok.hd hc
    have hnone : its.toArray[i]? = none := by simp; omega
    exact enum_end_t (I.ok.hd hc) he hit pt hnone fun h' eb => ⟨rfl, I.turned (t' := s.toks) (fun b o hb q => eb b o hb q) f0 f1 f3 f4 f5⟩
  self := fun A i s Q E st h => let ⟨⟨_, he⟩, _⟩ := st; wpAny_pyIter_enum he h
/-- a tuple, its items as pairs -/
def iEnumT (K : PySem.W.Frag) (ta : TA) : TI := fun σ H R => ta σ H fun vs H1 => ∃ a xs, vs = [.ref a] ∧ SqT K H1 a xs ∧ R (IteT K a) H1
theorem pi_enumT {X : Cx} {e : Expr} {ta : TA} {p pos tpos : Pos} {elts : List Expr} {kk : Nat} (hg : Gl X "enumerate") (hm : X.mg "enumerate" = none) (ha : PA X [e] ta) (hs : starEach [e] X.env = [(false, eval e X.env)] := by rfl) :
    PI X (.Tuple elts kk tpos) (.Call (.Name "enumerate" p) [e] [] pos) (iEnumT X.K ta) := by
  refine ⟨fun pins s σ H R I h => ?_⟩
  refine Call_ (ld_blt I hg hm boot_enumerate (PyProof.Rows.callWith_type1 (thn (ha.run pos pins s σ H _ I h) fun us s1 ⟨vs, H1, I1, r1, q1⟩ => ?_) hs rfl))
  obtain ⟨a, xs, ex, hq, q⟩ := q1
  subst ex
  cases r1 with
  | cons r rr =>
    cases rr
    cases r
    obtain ⟨its, rv, p', hz⟩ := I1.tuple hq
    refine enum_begins1 (begins_tuple a its.toArray) (show s1.heap.IsTuple a its.toArray from p') (F.typeCall_enumerate_1 _) (F.newCall_enumerate_1 _) fun h' he hit hsz hk => wpAny_pyIter_enum he ?_
    have I2 : L2.Inv X pins σ H1 { s1 with heap := h' } := I1.kept (t' := s1.toks) hk
    refine ⟨s1.heap.objs.size + 1, [s1.heap.objs.size + 1, s1.heap.objs.size], _, _, H1, rfl, I2, turn_enumT a (s1.heap.objs.size + 1) s1.heap.objs.size, ⟨⟨.none, he⟩, ⟨_, hit, rfl, rfl⟩, Nat.succ_ne_self _⟩, fun b hb => ?_, q⟩
    have e' : b = s1.heap.objs.size + 1 ∨ b = s1.heap.objs.size := by simpa using hb
    have hle : s1.heap.objs.size ≤ b := by
      rcases e' with z | z
      · rw [z]; exact Nat.le_add_right _ _
      · rw [z]; exact Nat.le_refl _
    exact I1.fpOk hle (I1.hok.fresh hle)
section
variable {K : PySem.W.Frag} {mg : Str → Option Value} {ι : Nm} {H : Hp} {S : Sto}
theorem itok_et {a : Addr} {ds : List D} (h : Sty K mg (SqT K) ι H a ds) : ItOk K mg ι H (IteT K a) (.fix (enumL 0 ds)) := fun ι2 H2 S m hS i => by
  obtain ⟨vs, l, q⟩ := h
  have q2 := q ι2 H2 m
  refine ⟨fun d e => ?_, fun e => ?_⟩
  · have e := of_it e
    rw [enumL_get] at e
    obtain ⟨d', e', rfl⟩ := Option.map_eq_some_iff.mp e
    obtain ⟨v, h1, h2⟩ := l.get e'
    refine ⟨⟨_, v, q2, h1⟩, fun x H' y => ?_⟩
    obtain ⟨T, x, rfl, hT, rfl, y⟩ := y
    have := y _ q2
    rw [h1] at this
    cases this
    rw [Nat.zero_add]
    exact ⟨ι2, pair_new hT hS (RepV.mo m _ _ h2)⟩
  · refine ⟨_, q2, ?_⟩
    rw [l.length]
    have := List.getElem?_eq_none_iff.mp (of_stop e)
    rwa [enumL_len] at this
end
theorem si_enum {X : Cx} {W : WX} {e : Expr} {cs : DAn} {p pos tpos : Pos} {elts : List Expr} {kk : Nat} (hg : Gl X "enumerate") (hm : X.mg "enumerate" = none) (ha : SA X W [e] cs) (hs : starEach [e] X.env = [(false, eval e X.env)] := by rfl) :
    SI X W (.Tuple elts kk tpos) (.Call (.Name "enumerate" p) [e] [] pos) (iEnumD cs) := PI.weak (PI.or (pi_enum hg hm ha hs) (pi_enumT hg hm ha hs)) fun σ H R h => by
  obtain ⟨ι, env, S, hS, hE, q⟩ := h
  by_cases z : ∃ ds S1, cs env S = .ok [.tup ds] S1
  · obtain ⟨ds, S1, z⟩ := z
    refine .inr (tDA.seq hS hE q fun ι1 H1 v d S2 e x s _ r q => ?_)
    rw [z] at e
    cases e
    obtain ⟨v, rfl, r1⟩ := r.one
    obtain ⟨a, rfl, h⟩ := sty_tup r1
    obtain ⟨vs, s1, _⟩ := h.now
    exact ⟨a, vs, rfl, s1, Aft.done q s (itok_et h)⟩
  · refine .inl (tDA.seq hS hE q fun ι1 H1 v d S2 e x s _ r q => ?_)
    match d, r, e, q with
    | [], _, _, q => exact q.elim
    | _ :: _ :: _, _, _, q => exact q.elim
    | [d1], r, e, q =>
      have q : Aft X.K X.mg (ItOk X.K X.mg) (fun cls dd H' => W cls dd σ H') ι1 H1 (enumOf d1 S2) R := q
      obtain ⟨v, rfl, r1⟩ := r.one
      cases d1 with
      | tup ds => exact absurd ⟨ds, S2, e⟩ z
      | lst ds =>
        obtain ⟨a, rfl, h⟩ := sty_lst r1
        obtain ⟨vs, s1, _⟩ := h.now
        exact ⟨a, vs, rfl, s1, Aft.done q s (itok_el h)⟩
      | kls ds =>
        obtain ⟨a, rfl, h⟩ := sty_kls r1
        obtain ⟨vs, s1, _⟩ := h.now
        exact ⟨a, vs, rfl, s1, Aft.done q s (itok_el h)⟩
      | cel k =>
        cases r1 with
        | @cel _ a hn =>
          cases e : S2[k]? with
          | none => simp only [enumOf, e] at q; exact q.elim
          | some c =>
            cases c with
            | ins _ _ _ => simp only [enumOf, e] at q; exact q.elim
            | dct _ _ => simp only [enumOf, e] at q; exact q.elim
            | lst ds =>
              simp only [enumOf, e] at q
              obtain ⟨vs, q1, l⟩ := s.at_ _ _ _ e hn
              exact ⟨_, vs, rfl, .inl (.inl q1), Aft.done q s (itok_ec hn)⟩
      | _ => exact q.elim
end DL
end

section
set_option Elab.async false
set_option linter.all false
set_option maxRecDepth 100000
set_option maxHeartbeats 4000000
set_option autoImplicit false
/-! for, while, comprehensions -/
namespace DL
open PySem PySem.Spec PyProof.Rows L2

/-- what a loop makes of its body's end -/
def RS.lp (r : RS) (f : DSn) : RS := match r with
  | .nx env S => f env S
  | .cnt env S => f env S
  | .brk env S => .nx env S
  | .ret d S => .ret d S
  | .exn x env S => .exn x env S
  | .bad => .bad
@[simp] theorem lp_nx (env : Env) (S : Sto) (f : DSn) : (RS.nx env S).lp f = f env S := (rfl)
@[simp] theorem lp_cnt (env : Env) (S : Sto) (f : DSn) : (RS.cnt env S).lp f = f env S := (rfl)
@[simp] theorem lp_brk (env : Env) (S : Sto) (f : DSn) : (RS.brk env S).lp f = .nx env S := (rfl)
@[simp] theorem lp_ret (d : D) (S : Sto) (f : DSn) : (RS.ret d S).lp f = .ret d S := (rfl)
@[simp] theorem lp_exn (x : Exn) (d : Env) (S : Sto) (f : DSn) : (RS.exn x d S).lp f = .exn x d S := (rfl)
@[simp] theorem lp_bad (f : DSn) : (RS.bad).lp f = .bad := (rfl)
def forN (src : Src) (g : DGn) (b : DSn) : Nat → Nat → DSn
  | 0, i => fun env S => match src.cur S i with
    | .stop => .nx env S
    | _ => .bad
  | m + 1, i => fun env S => match src.cur S i with
    | .stop => .nx env S
    | .bad => .bad
    | .it d => ((g d env S).tg.seq b).lp (forN src g b m (i + 1))
def sFor (it : Env → Sto → Res Src) (g : DGn) (b : DSn) : DSn := fun env S => (it env S).th env fun src S1 => forN src g b src.n 0 env S1
def whlN (t : DTn) (b : DSn) : Nat → DSn
  | 0 => fun _ _ => .bad
  | m + 1 => fun env S => (t env S).th env fun k S1 => if k = true then (b env S1).lp (whlN t b m) else .nx env S1
def sWhl (fuel : Env → Sto → Nat) (t : DTn) (b : DSn) : DSn := fun env S => whlN t b (fuel env S) env S

section
variable {K : PySem.W.Frag} {mg : Str → Option Value} {W : WX} {ι ι' : Nm} {H H' : Hp} {S : Sto} {σ : L2.St} {env : Env} {E E' : Ends}
theorem AftS.lp {r : RS} {f : DSn} (h : AftS K mg W ι H (r.lp f) E) (k : ∀ ι1 H1 σ1 env1 S1, Ext ι H ι1 H1 → SimS K mg ι1 H1 S1 → RepE K mg ι1 H1 σ1 env1 → AftS K mg W ι1 H1 (f env1 S1) E → E'.nx σ1 H1)
    (e1 : E'.rt = E.rt) (e2 : E'.bk = E.nx) (e3 : E'.ct = E'.nx) : AftS K mg W ι H r E' := by
  cases r with
  | nx env S' => exact fun ι1 H1 σ1 y s q => k ι1 H1 σ1 env S' y s q (AftS.ext y h)
  | ret d S' =>
    have h : AftS K mg W ι H (.ret d S') E := h
    show ∀ ι' H' v, Ext ι H ι' H' → SimS K mg ι' H' S' → RepV K mg ι' H' v d → E'.rt v H'
    rw [e1]
    exact h
  | brk env S' =>
    have h : AftS K mg W ι H (.nx env S') E := h
    show ∀ ι' H' σ', Ext ι H ι' H' → SimS K mg ι' H' S' → RepE K mg ι' H' σ' env → E'.bk σ' H'
    rw [e2]
    exact h
  | cnt env S' =>
    show ∀ ι' H' σ', Ext ι H ι' H' → SimS K mg ι' H' S' → RepE K mg ι' H' σ' env → E'.ct σ' H'
    rw [e3]
    exact fun ι1 H1 σ1 y s q => k ι1 H1 σ1 env S' y s q (AftS.ext y h)
  | exn e env S' => exact h
  | bad => exact h
/-- a target's end, then the rest -/
theorem AftS.tgseq {r : RS} {f : DSn} {g : RS → RS} (hg : ∀ x env S, g (.exn x env S) = .exn x env S) (hb : g .bad = .bad) (h : AftS K mg W ι H (g (r.tg.seq f)) E) {Q : L2.St → Hp → Prop}
    (k : ∀ ι1 H1 σ1 env1 S1, Ext ι H ι1 H1 → SimS K mg ι1 H1 S1 → RepE K mg ι1 H1 σ1 env1 → AftS K mg W ι1 H1 (g (f env1 S1)) E → Q σ1 H1) : AftS K mg W ι H r { nx := Q, rt := fun _ _ => False } := by
  cases r with
  | nx env S' => exact fun ι1 H1 σ1 y s q => k ι1 H1 σ1 env S' y s q (AftS.ext y h)
  | exn e env S' =>
    have h : AftS K mg W ι H (g (.exn e env S')) E := h
    rw [hg] at h
    exact h
  | _ =>
    have h : AftS K mg W ι H (g .bad) E := h
    rw [hb] at h
    exact h.elim
theorem Aft.th {α β : Type} {rep : Nm → Hp → β → α → Prop} {c : Env → Sto → Res α} {f : α → Sto → RS} {R : β → Hp → Prop} (hS : SimS K mg ι H S) (hE : RepE K mg ι H σ env) (h : AftS K mg W ι H ((c env S).th env f) E)
    (k : ∀ ι1 H1 v d S1, Ext ι H ι1 H1 → SimS K mg ι1 H1 S1 → RepE K mg ι1 H1 σ env → rep ι1 H1 v d → AftS K mg W ι1 H1 (f d S1) E → R v H1) :
    ∃ ι env S, SimS K mg ι H S ∧ RepE K mg ι H σ env ∧ Aft K mg rep (fun cls dd H' => W cls dd σ H') ι H (c env S) R :=
  ⟨ι, env, S, hS, hE, AftS.th hE h fun ι1 H1 v d S1 e x s r q => k ι1 H1 v d S1 x s (hE.ext x) r q⟩
end
section
variable {X : Cx} {W : WX} {tg iter c : Expr} {body : List Stmt} {pos : Pos} {ci : Env → Sto → Res Src} {g : DGn} {b : DSn} {ct : DTn}
theorem ss_for (gX : Go X W) (hi : SI X W tg iter ci) (hg : SG X W tg g) (hb : SSs X W body b) (hs : ∀ x, foldedSetIterable iter X.env x = pure x := by intro _; rfl) : SS X W (.For tg iter body [] pos) (sFor ci g b) := PS.weak (ps_for gX.hp gX.calm hi hg hb hs) fun D σ H h => by
  obtain ⟨ι, env, S, hS, hE, q⟩ := h
  refine Aft.th (rep := ItOk X.K X.mg) hS hE q fun ι0 H0 J src S0 x0 s0 e0 r0 q => ?_
  refine ⟨fun i m σ H => ∃ ι env S, Ext ι0 H0 ι H ∧ SimS X.K X.mg ι H S ∧ RepE X.K X.mg ι H σ env ∧ AftS X.K X.mg W ι H (forN src g b m i env S) D, ⟨src.n, ι0, env, S0, Ext.refl _ _, s0, e0, q⟩, ?_⟩
  rintro i m σ H ⟨ι, env, S, x, s, e, q⟩
  have ok := r0 ι H S x.mo s i
  cases m with
  | zero =>
    unfold forN at q
    cases z : src.cur S i with
    | stop =>
      rw [z] at q
      exact .inl ⟨ok.2 z, q.nx_ s e⟩
    | _ => rw [z] at q; exact q.elim
  | succ m =>
    unfold forN at q
    cases z : src.cur S i with
    | stop =>
      rw [z] at q
      exact .inl ⟨ok.2 z, q.nx_ s e⟩
    | bad => rw [z] at q; exact q.elim
    | it d =>
      rw [z] at q
      obtain ⟨hgo, hy⟩ := ok.1 d z
      refine .inr ⟨hgo, fun σ' H' => ∃ ι env S, Ext ι0 H0 ι H' ∧ SimS X.K X.mg ι H' S ∧ RepE X.K X.mg ι H' σ' env ∧ AftS X.K X.mg W ι H' (forN src g b m (i + 1) env S) D, fun σ' H' n => ⟨m, Nat.lt_succ_self m, n⟩, fun v H' y => ?_⟩
      obtain ⟨ι', x', s', r'⟩ := hy v H' y
      refine ⟨ι', env, S, d, s', e.ext x', r', AftS.tgseq (g := fun r => r.lp (forN src g b m (i + 1))) (fun _ _ _ => rfl) rfl (AftS.ext x' q) fun ι1 H1 σ1 env1 S1 x1 s1 e1 q1 => ?_⟩
      refine ⟨ι1, env1, S1, s1, e1, AftS.lp q1 (fun ι2 H2 σ2 env2 S2 x2 s2 e2 q2 => ?_) rfl rfl rfl⟩
      exact ⟨ι2, env2, S2, ((x.trans x').trans x1).trans x2, s2, e2, q2⟩
theorem ss_whl (gX : Go X W) (fuel : Env → Sto → Nat) (hc : ST X W c ct) (hb : SSs X W body b) : SS X W (.While c body [] pos) (sWhl fuel ct b) := PS.weak (ps_while gX.hp hc hb) fun D σ H h => by
  obtain ⟨ι, env, S, hS, hE, q⟩ := h
  refine ⟨fun m σ H => ∃ ι env S, SimS X.K X.mg ι H S ∧ RepE X.K X.mg ι H σ env ∧ AftS X.K X.mg W ι H (whlN ct b m env S) D, ⟨fuel env S, ι, env, S, hS, hE, q⟩, ?_⟩
  rintro m σ H ⟨ι, env, S, s, e, q⟩
  cases m with
  | zero => exact q.elim
  | succ m =>
    refine Aft.th (rep := repB) s e q fun ι1 H1 k k' S1 x1 s1 e1 r1 q1 => ?_
    have ek : k = k' := r1
    subst ek
    cases k with
    | false => exact q1.nx_ s1 e1
    | true =>
      rw [if_pos rfl]
      rw [if_pos rfl] at q1
      refine ⟨fun σ' H' => ∃ ι env S, SimS X.K X.mg ι H' S ∧ RepE X.K X.mg ι H' σ' env ∧ AftS X.K X.mg W ι H' (whlN ct b m env S) D, fun σ' H' n => ⟨m, Nat.lt_succ_self m, n⟩, ?_⟩
      exact ⟨ι1, env, S1, s1, e1, AftS.lp q1 (fun ι2 H2 σ2 env2 S2 x2 s2 e2 q2 => ⟨ι2, env2, S2, s2, e2, q2⟩) rfl rfl rfl⟩
end

/-! ### comprehensions -/
def wipeD (env : Env) : List Nat → Env
  | [] => env
  | v :: vs => (wipeD env vs).set v none
/-- no exception may leave -/
def Res.nox {α : Type} (r : Res α) : Res α := match r with
  | .ok a S => .ok a S
  | _ => .bad
@[simp] theorem nox_ok {α : Type} (a : α) (S : Sto) : (Res.ok a S).nox = .ok a S := (rfl)
@[simp] theorem nox_bad {α : Type} : (Res.bad : Res α).nox = .bad := (rfl)
@[simp] theorem nox_exn {α : Type} (x : Exn) (S : Sto) : (Res.exn x S : Res α).nox = .bad := (rfl)
abbrev W0 : WX := fun _ _ _ _ => False
def lcN (src : Src) (g : DGn) (t : DTn) (e : DEn) (env0 : Env) : Nat → Nat → List D → Sto → Res (List D)
  | 0, i, acc, S => match src.cur S i with
    | .stop => .ok acc S
    | _ => .bad
  | m + 1, i, acc, S => match src.cur S i with
    | .stop => .ok acc S
    | .bad => .bad
    | .it d => match g d env0 S with
      | .nx env2 S2 => (t env2 S2).nox.bind fun k S3 => if k = true then (e env2 S3).nox.bind fun y S4 => if acc.length < LIM then lcN src g t e env0 m (i + 1) (acc ++ [y]) S4 else .bad else lcN src g t e env0 m (i + 1) acc S3
      | _ => .bad
def cLc (it : Env → Sto → Res Src) (g : DGn) (t : DTn) (e : DEn) (vs : List Nat) : DAn := fun env S => (it env S).bind fun src S1 => lcN src g t e (wipeD env vs) src.n 0 [] S1
def tYesD : DTn := fun _ S => .ok true S
section
variable {K : PySem.W.Frag} {mg : Str → Option Value} {W : WX} {ι ι' : Nm} {H H' : Hp} {S : Sto} {σ : L2.St} {env : Env}
theorem RepE.unset (h : RepE K mg ι H σ env) (i : Nat) : RepE K mg ι H (σ.set i none) (env.set i none) := by
  refine ⟨by rw [List.length_set, List.length_set]; exact h.len, fun j e he => ?_⟩
  by_cases hj : i = j
  · subst hj
    have hi : i < env.length := by
      have := (List.getElem?_eq_some_iff.mp he).1
      rwa [List.length_set] at this
    rw [List.getElem?_set_self hi] at he
    cases he
  · rw [List.getElem?_set_ne hj] at he
    obtain ⟨w, h1, h2⟩ := h.at_ j e he
    exact ⟨w, by rw [List.getElem?_set_ne hj]; exact h1, h2⟩
theorem RepE.wipe (h : RepE K mg ι H σ env) : ∀ vs : List Nat, RepE K mg ι H (wipe σ vs) (wipeD env vs)
  | [] => h
  | v :: vs => (RepE.wipe h vs).unset v
theorem RepE.mo (x : Mo ι H ι' H') (h : RepE K mg ι H σ env) : RepE K mg ι' H' σ env := ⟨h.len, fun i d e => by
  obtain ⟨v, h1, h2⟩ := h.at_ i d e
  exact ⟨v, h1, RepV.mo x _ _ h2⟩⟩
theorem wipe_set_in {σ : L2.St} {i : Nat} {v : Option V} : ∀ {vs : List Nat}, i ∈ vs → wipe (σ.set i v) vs = wipe σ vs
  | w :: vs, h => by
    by_cases hw : i ∈ vs
    · show (wipe (σ.set i v) vs).set w none = _
      rw [wipe_set_in hw]
      rfl
    · rcases List.mem_cons.mp h with e | e
      · subst e
        have key : ∀ us : List Nat, i ∉ us → wipe (σ.set i v) us = (wipe σ us).set i v := fun us => by
          induction us with
          | nil => exact fun _ => rfl
          | cons u us ih =>
            intro hu
            show (wipe (σ.set i v) us).set u none = ((wipe σ us).set u none).set i v
            rw [ih (fun z => hu (List.mem_cons_of_mem _ z)), List.set_comm]
            exact fun z => hu (by rw [z]; exact List.mem_cons_self)
        show (wipe (σ.set i v) vs).set i none = (wipe σ vs).set i none
        rw [key vs hw, List.set_set]
      · exact absurd e hw
/-- a target that stores in vs alone -/
def tDGv (K : PySem.W.Frag) (mg : Str → Option Value) (vs : List Nat) (g : DGn) : TG := fun v σ H Q => ∃ ι env S d, SimS K mg ι H S ∧ RepE K mg ι H σ env ∧ RepV K mg ι H v d ∧ (match g d env S with
  | .nx env' S' => ∀ σ', S' = S → RepE K mg ι H σ' env' → wipe σ' vs = wipe σ vs → Q σ' H
  | _ => False)
def tDGsv (K : PySem.W.Frag) (mg : Str → Option Value) (vs : List Nat) (g : DGs) : TGs := fun v σ H Q => ∃ ι env S d, SimS K mg ι H S ∧ RepE K mg ι H σ env ∧ RepL K mg ι H v d ∧ (match g d env S with
  | .nx env' S' => ∀ σ', S' = S → RepE K mg ι H σ' env' → wipe σ' vs = wipe σ vs → Q σ' H
  | _ => False)
end
abbrev SGv (X : Cx) (vs : List Nat) (e : Expr) (g : DGn) : Prop := PG X e (tDGv X.K X.mg vs g)
abbrev SGsv (X : Cx) (vs : List Nat) (e : List Expr) (g : DGs) : Prop := PGs X e (tDGsv X.K X.mg vs g)
/-- a target leaves the store -/
def Calm (g : DGn) : Prop := ∀ d env S, g d env S = .bad ∨ ∃ env', g d env S = .nx env' S
def Calms (g : DGs) : Prop := ∀ d env S, g d env S = .bad ∨ ∃ env', g d env S = .nx env' S
theorem calm_nm {i : Nat} : Calm (gNm i) := fun _ _ _ => .inr ⟨_, rfl⟩
theorem calms_nil : Calms gsNil := fun ds _ _ => by cases ds <;> first | exact .inl rfl | exact .inr ⟨_, rfl⟩
theorem calms_cons {g : DGn} {gs : DGs} (h : Calm g) (k : Calms gs) : Calms (gsCons g gs) := fun ds env S => by
  cases ds with
  | nil => exact .inl rfl
  | cons d ds =>
    show (g d env S).seq (fun env' S' => gs ds env' S') = .bad ∨ ∃ env', (g d env S).seq (fun env' S' => gs ds env' S') = .nx env' S
    rcases h d env S with e | ⟨env', e⟩
    · rw [e]; exact .inl rfl
    · rw [e]; exact k ds env' S
theorem calm_tp {gs : DGs} (k : Calms gs) : Calm (gTp gs) := fun d env S => by
  cases d with
  | tup ds => exact k ds env S
  | lst ds => exact k ds env S
  | _ => exact .inl rfl
section
variable {X : Cx} {W : WX} {vs : List Nat} {e : Expr} {es : List Expr} {pos : Pos} {g : DGn} {gs : DGs}
theorem sgv_nm (hc : X.calm = true) (hN : X.N.Nodup) (i : Nat) {x : Str} (hv : i ∈ vs := by decide) (hi : X.N[i]? = some x := by rfl) (hx : Loc X.env.scope x := by first | exact Or.inl rfl | exact Or.inr rfl)
    (hf : X.fn x = true ∨ X.env.scope.names.lookup x = some .local := by first | exact .inl rfl | exact .inr rfl) : SGv X vs (.Name x pos) (gNm i) := PG.weak (pg_name hN hi hx hf) fun v σ H Q h => by
  obtain ⟨ι, env, S, d, hS, hE, hV, q⟩ := h
  exact q (σ.set i (some v)) rfl (hE.set hV) (wipe_set_in hv)
theorem sgsv_nil : SGsv X vs [] gsNil := PGs.weak pgs_nil fun v σ H Q h => by
  obtain ⟨ι, env, S, d, hS, hE, hV, q⟩ := h
  cases d with
  | nil =>
    cases hV
    exact ⟨rfl, q σ rfl hE rfl⟩
  | cons _ _ => exact q.elim
theorem sgsv_cons (c1 : Calm g) (h1 : SGv X vs e g) (h2 : SGsv X vs es gs) (hs : (assignEach (e :: es) X.env).map (·.2) = assign e X.env :: (assignEach es X.env).map (·.2) := by rfl) : SGsv X vs (e :: es) (gsCons g gs) := PGs.weak (pgs_cons h1 h2 hs) fun v σ H Q h => by
  obtain ⟨ι, env, S, d, hS, hE, hV, q⟩ := h
  cases d with
  | nil => exact q.elim
  | cons d ds =>
    cases hV with
    | cons r rs =>
      refine ⟨_, _, rfl, ι, env, S, d, hS, hE, r, ?_⟩
      have q : (match (g d env S).seq (fun env' S' => gs ds env' S') with
        | .nx env' S' => ∀ σ', S' = S → RepE X.K X.mg ι H σ' env' → wipe σ' vs = wipe σ vs → Q σ' H
        | _ => False) := q
      rcases c1 d env S with z | ⟨env1, z⟩
      · rw [z] at q
        exact q.elim
      · rw [z] at q ⊢
        intro σ1 _ e1 w1
        refine ⟨ι, env1, S, ds, hS, e1, rs, ?_⟩
        have q : (match gs ds env1 S with
          | .nx env' S' => ∀ σ', S' = S → RepE X.K X.mg ι H σ' env' → wipe σ' vs = wipe σ vs → Q σ' H
          | _ => False) := q
        revert q
        cases gs ds env1 S with
        | nx env' S' => exact fun q σ' es e' w' => q σ' es e' (w'.trans w1)
        | _ => exact fun q => q.elim
theorem sgv_tp (hc : X.calm = true) {k : Nat} (h : SGsv X vs es gs) (n : Nat) (hn : (assignEach es X.env).length = n := by rfl) (hst : (assignEach es X.env).findIdx? (·.1) = none := by rfl)
    (hl : ∀ ds env S, ds.length ≠ n → gs ds env S = .bad) : SGv X vs (.Tuple es k pos) (gTp gs) := PG.weak (PG.or (pg_tup hc h hn hst) (pg_lst hc h hn hst)) fun v σ H Q h => by
  obtain ⟨ι, env, S, d, hS, hE, hV, q⟩ := h
  cases d with
  | tup ds =>
    obtain ⟨a, us, rfl, hq, l⟩ := hV.sqT
    refine .inl ⟨a, us, rfl, hq, ?_, ι, env, S, ds, hS, hE, l, q⟩
    rw [l.length]
    by_cases z : ds.length = n
    · exact z
    · have q : (match gs ds env S with
        | .nx env' S' => ∀ σ', S' = S → RepE X.K X.mg ι H σ' env' → wipe σ' vs = wipe σ vs → Q σ' H
        | _ => False) := q
      rw [hl ds env S z] at q
      exact q.elim
  | lst ds =>
    obtain ⟨a, us, rfl, hq, l⟩ := hV.sqL
    refine .inr ⟨a, us, rfl, .inl (.inl hq), ?_, ι, env, S, ds, hS, hE, l, q⟩
    rw [l.length]
    by_cases z : ds.length = n
    · exact z
    · have q : (match gs ds env S with
        | .nx env' S' => ∀ σ', S' = S → RepE X.K X.mg ι H σ' env' → wipe σ' vs = wipe σ vs → Q σ' H
        | _ => False) := q
      rw [hl ds env S z] at q
      exact q.elim
  | _ => exact q.elim
/-- a comprehension's tests -/
abbrev STs (X : Cx) (W : WX) (es : List Expr) (c : DTn) : Prop := PTs X es (tDT X.K X.mg W c)
theorem sts_nil : STs X W [] tYesD := ⟨fun pins s σ H Q I h => by
  obtain ⟨ι, env, S, hS, hE, q⟩ := h
  exact pts_nil.run pins s σ H Q I (show Q true H from Aft.done q hS rfl)⟩
theorem sts_one {c : Expr} {t : DTn} (h : ST X W c t) : STs X W [c] t := pts_one h
end
end DL
end

section
set_option Elab.async false
set_option linter.all false
set_option maxRecDepth 100000
set_option maxHeartbeats 4000000
set_option autoImplicit false
/-! list comprehensions -/
namespace DL
open PySem PySem.Spec PyProof.Rows L2

theorem wipe_get {σ : L2.St} {i : Nat} : ∀ {vs : List Nat}, (wipe σ vs)[i]? = if i ∈ vs then (σ[i]?).map fun _ => none else σ[i]?
  | [] => by simp [wipe]
  | v :: vs => by
    show ((wipe σ vs).set v none)[i]? = _
    by_cases h : v = i
    · subst h
      rw [List.getElem?_set_self', if_pos List.mem_cons_self]
      rw [wipe_get]
      by_cases hv : v ∈ vs
      · rw [if_pos hv]
        cases σ[v]? <;> rfl
      · rw [if_neg hv]
        cases σ[v]? <;> rfl
    · rw [List.getElem?_set_ne h, wipe_get]
      have : (i ∈ v :: vs) ↔ i ∈ vs := by simp [Ne.symm h]
      simp only [this]
theorem wipe_wipe {σ : L2.St} {vs : List Nat} : wipe (wipe σ vs) vs = wipe σ vs := by
  refine List.ext_getElem? fun i => ?_
  rw [wipe_get, wipe_get]
  split
  · cases σ[i]? <;> rfl
  · rfl
section
variable {K : PySem.W.Frag} {mg : Str → Option Value} {W : WX} {ι ι' ι1 ι2 ι5 : Nm} {H H' H1 H2 H5 : Hp} {S : Sto} {σ : L2.St} {env : Env} {D : Addr}
theorem Ext.under (x : Ext ι1 H1 ι2 H2) (hD : H1 D = none) (y : Ext (ι2.hide D) H2 ι5 H5) : Ext ι1 H1 ⟨ι5.ns, ι2.hid⟩ H5 := by
  obtain ⟨m, e⟩ := x.pre
  obtain ⟨m', e'⟩ := y.pre
  refine ⟨⟨m ++ m', by rw [← List.append_assoc, ← e]; exact e'⟩, x.hid, fun a o h t n => ?_, fun a h => y.trk a (x.trk a h)⟩
  obtain ⟨h1, n1⟩ := x.keep a o h t n
  exact y.keep a o h1 t n1
theorem Ext.underW {o : HO} (x : Ext ι1 H1 ι2 H2) (hD : H1 D = none) (y : Ext (ι2.hide D) H2 ι5 H5) : Ext ι1 H1 ⟨ι5.ns, ι2.hid⟩ (upd H5 D o) := by
  have z := Ext.under x hD y
  exact ⟨z.pre, z.hid, fun a u h t n => ⟨by rw [upd_ne (ne_of_none h hD)]; exact (z.keep a u h t n).1, (z.keep a u h t n).2⟩, fun a h => upd_trk (z.trk a h)⟩
theorem Mo.into (x : Ext ι1 H1 ι2 H2) (hD : H1 D = none) : Mo ι1 H1 (ι2.hide D) H2 := ⟨fun n a h => x.get h, fun a o h t n => by
  obtain ⟨h1, n1⟩ := x.mo.keep a o h t n
  exact ⟨h1, n1.1, fun z => by
    rcases List.mem_cons.mp z with z | z
    · exact ne_of_none h hD z
    · exact n1.2 z⟩⟩
/-- a comprehension's loop, on data -/
theorem lc_imp {ci : Env → Sto → Res Src} {g : DGn} {t : DTn} {e : DEn} {vs : List Nat} {Q : VK} (cg : Calm g) (h : tDF K mg W (cLc ci g t e vs) σ H Q) :
    tLc (tDI K mg W ci) (tDGv K mg vs g) (tDT K mg W0 t) (tD K mg W0 e) vs σ H Q := by
  obtain ⟨ι, env, S, hS, hE, q⟩ := h
  refine ⟨ι, env, S, hS, hE, AftF.seq hS q fun ι1 H1 J src S1 _ x1 s1 r1 q1 => ?_⟩
  intro D hD
  have hDh : D ∉ ι1.hid := (s1.fresh hD).2
  refine ⟨fun i m H' => ∃ (ι2 : Nm) (S2 : Sto) (acc : List V) (accd : List DL.D), Ext ι1 H1 ι2 H' ∧ SimS K mg (ι2.hide D) H' S2 ∧ D ∉ ι2.hid ∧ H' D = some (.lst acc) ∧ RepL K mg (ι2.hide D) H' acc accd ∧
    AftF K mg (fun cls dd H' => W cls dd σ H') ι1 H1 (lcN src g t e (wipeD env vs) m i accd S2) Q, ⟨src.n, ι1, S1, [], [], Ext.new hD, s1.newHid hD, hDh, upd_same, .nil, q1⟩, ?_⟩
  rintro i m H' ⟨ι2, S2, acc, accd, x2, s2, hd2, hD2, l2, q2⟩
  have ok := r1 (ι2.hide D) H' S2 (Mo.into x2 hD) s2 i
  have halt : src.cur S2 i = .stop → AftF K mg (fun cls dd H' => W cls dd σ H') ι1 H1 (.ok accd S2) Q → J.stop i H' ∧ Q (.ref D) H' := fun z q => ⟨ok.2 z, q ι2 H' D acc x2 s2 hD hd2 hD2 l2⟩
  cases m with
  | zero =>
    unfold lcN at q2
    cases z : src.cur S2 i with
    | stop =>
      rw [z] at q2
      exact .inl (halt z q2)
    | _ => rw [z] at q2; exact q2.elim
  | succ m =>
    unfold lcN at q2
    cases z : src.cur S2 i with
    | stop =>
      rw [z] at q2
      exact .inl (halt z q2)
    | bad => rw [z] at q2; exact q2.elim
    | it d =>
      rw [z] at q2
      obtain ⟨hgo, hy⟩ := ok.1 d z
      refine .inr ⟨hgo, fun H' => ∃ (ι2 : Nm) (S2 : Sto) (acc : List V) (accd : List DL.D), Ext ι1 H1 ι2 H' ∧ SimS K mg (ι2.hide D) H' S2 ∧ D ∉ ι2.hid ∧ H' D = some (.lst acc) ∧ RepL K mg (ι2.hide D) H' acc accd ∧
        AftF K mg (fun cls dd H' => W cls dd σ H') ι1 H1 (lcN src g t e (wipeD env vs) m (i + 1) accd S2) Q, fun H' n => ⟨m, Nat.lt_succ_self m, n⟩, fun v H3 y => ?_⟩
      obtain ⟨ι3, x3, s3, r3⟩ := hy v H3 y
      have e3 : RepE K mg ι3 H3 (wipe σ vs) (wipeD env vs) := (hE.wipe vs).mo ((x1.mo.trans (Mo.into x2 hD)).trans x3.mo)
      refine ⟨ι3, wipeD env vs, S2, d, s3, e3, r3, ?_⟩
      have q2 : AftF K mg (fun cls dd H' => W cls dd σ H') ι1 H1 (match g d (wipeD env vs) S2 with
        | .nx env2 S2 => (t env2 S2).nox.bind fun k S3 => if k = true then (e env2 S3).nox.bind fun y S4 => if accd.length < LIM then lcN src g t e (wipeD env vs) m (i + 1) (accd ++ [y]) S4 else .bad else lcN src g t e (wipeD env vs) m (i + 1) accd S3
        | _ => .bad) Q := q2
      rcases cg d (wipeD env vs) S2 with zg | ⟨env2, zg⟩
      · rw [zg] at q2
        exact q2.elim
      · rw [zg] at q2 ⊢
        intro σ' _ e4 w4
        refine ⟨w4.trans wipe_wipe, ι3, env2, S2, s3, e4, ?_⟩
        have q2 : AftF K mg (fun cls dd H' => W cls dd σ H') ι1 H1 ((t env2 S2).nox.bind fun k S3 => if k = true then (e env2 S3).nox.bind fun y S4 => if accd.length < LIM then lcN src g t e (wipeD env vs) m (i + 1) (accd ++ [y]) S4 else .bad else lcN src g t e (wipeD env vs) m (i + 1) accd S3) Q := q2
        cases zt : t env2 S2 with
        | bad => rw [zt] at q2; exact q2.elim
        | exn _ _ => rw [zt] at q2; exact q2.elim
        | ok k S3 =>
          rw [zt] at q2
          intro ι4 H4 b x4 s4 r4
          have r4 : b = k := r4
          subst r4
          have q2 : AftF K mg (fun cls dd H' => W cls dd σ H') ι1 H1 (if b = true then (e env2 S3).nox.bind fun y S4 => if accd.length < LIM then lcN src g t e (wipeD env vs) m (i + 1) (accd ++ [y]) S4 else .bad else lcN src g t e (wipeD env vs) m (i + 1) accd S3) Q := q2
          have x34 := x3.trans x4
          cases b with
          | false =>
            rw [if_neg Bool.false_ne_true] at q2 ⊢
            have e4 : ι4 = Nm.hide ⟨ι4.ns, ι2.hid⟩ D := by
              have := x34.hid
              cases ι4
              cases this
              rfl
            refine ⟨⟨ι4.ns, ι2.hid⟩, S3, acc, accd, Ext.under x2 hD x34, by rw [← e4]; exact s4, hd2, ?_, by rw [← e4]; exact l2.ext x34, q2⟩
            exact (x34.keep _ _ hD2 (fun ps z => by cases z) (s2.hid D List.mem_cons_self).2).1
          | true =>
            rw [if_pos rfl] at q2 ⊢
            refine ⟨ι4, env2, S3, s4, e4.ext x4, ?_⟩
            cases ze : e env2 S3 with
            | bad => rw [ze] at q2; exact q2.elim
            | exn _ _ => rw [ze] at q2; exact q2.elim
            | ok yd S4 =>
              rw [ze] at q2
              have q2 : AftF K mg (fun cls dd H' => W cls dd σ H') ι1 H1 (if accd.length < LIM then lcN src g t e (wipeD env vs) m (i + 1) (accd ++ [yd]) S4 else .bad) Q := q2
              intro ι5 H5 y x5 s5 r5
              have x35 := x34.trans x5
              have hD5 := (x35.keep _ _ hD2 (fun ps z => by cases z) (s2.hid D List.mem_cons_self).2).1
              split at q2
              · rename_i hlen
                refine ⟨acc, hD5, by rw [lim_eq, l2.length]; exact hlen, ?_⟩
                have e5 : ι5 = Nm.hide ⟨ι5.ns, ι2.hid⟩ D := by
                  have := x35.hid
                  cases ι5
                  cases this
                  rfl
                refine ⟨⟨ι5.ns, ι2.hid⟩, S4, acc ++ [y], accd ++ [yd], Ext.underW x2 hD x35, ?_, hd2, upd_same, ?_, q2⟩
                · rw [← e5]
                  rw [e5] at s5
                  have := s5.wrHid (o := .lst (acc ++ [y]))
                  rw [← e5] at this
                  exact this
                · have l5 := (l2.ext x35).append (.cons r5 .nil)
                  rw [e5] at l5
                  exact RepL.mo Mo.wrHid _ _ l5
              · exact q2.elim
end
section
variable {X : Cx} {W : WX} {elt tg iter : Expr} {ifs : List Expr} {scope : Scope} {own : List (Str × Nat)} {pos : Pos} {ci : Env → Sto → Res Src} {g : DGn} {t : DTn} {e : DEn}
theorem go_blk (gX : Go X W) {s : Shared} {H : Hp} {scope : Scope} {cenv : PySem.Env} {fp : List Addr} : Go (X.blk s H scope cenv fp) W0 := ⟨gX.calm, gX.nd, PassesOwn.never, takes0⟩
theorem sf_lc (gX : Go X W) (own : List (Str × Nat)) (hi : SI X W tg iter ci) (ok : BlkOk X.N X.env.scope scope own) (cg : Calm g)
    (hg : ∀ (s : Shared) (H : Hp) (C : Addr) (cl : List (Str × Addr)) (fp : List Addr), SGv (X.blk s H scope (compEnvC scope cl C X.env) fp) (own.map (·.2)) tg g)
    (ht : ∀ (s : Shared) (H : Hp) (C : Addr) (cl : List (Str × Addr)) (fp : List Addr), STs (X.blk s H scope (compEnvC scope cl C X.env) fp) W0 ifs t)
    (he : ∀ (s : Shared) (H : Hp) (C : Addr) (cl : List (Str × Addr)) (fp : List Addr), SE (X.blk s H scope (compEnvC scope cl C X.env) fp) W0 elt e) (hs : ∀ x, foldedSetIterable iter X.env x = pure x := by intro _; rfl) :
    SF X W (.ListComp elt [⟨tg, iter, ifs, 0⟩] scope pos) (cLc ci g t e (own.map (·.2))) := PE.weak (pe_lc gX.calm gX.nd hi ok hg ht he hs) fun σ H Q h => lc_imp cg h
/-- name = [..] on one line: what the name takes -/
def sSetV (i : Nat) (c : DAn) : DSn := sSet i (cVal c)
theorem AftS.toF {K : PySem.W.Frag} {mg : Str → Option Value} {ι : Nm} {H : Hp} {σ : L2.St} {env : Env} {E : Ends} {S : Sto} {c : DAn} {i : Nat} (hE : RepE K mg ι H σ env) (q : AftS K mg W ι H (sSet i (cVal c) env S) E) :
    AftF K mg (fun cls dd H' => W cls dd σ H') ι H (c env S) fun v H1 => E.nx (σ.set i (some v)) H1 := by
  have q : AftS K mg W ι H (((c env S).bind fun ds S1 => .ok (.lst ds) S1).th env fun d S1 => .nx (env.set i (some d)) S1) E := q
  cases hr : c env S with
  | bad => rw [hr] at q; exact q
  | exn x S' =>
    rw [hr] at q
    exact fun ι1 H1 cls dd x1 s1 r1 => q ι1 H1 σ cls dd x1 s1 (hE.ext x1) r1
  | ok ds S1 =>
    rw [hr] at q
    exact fun ι1 H1 p vs x1 s1 n m e l => q ι1 H1 _ x1 s1.shown ((hE.ext x1).set (.lst e ⟨(s1.hid p List.mem_cons_self).2, m⟩ (RepL.mo Mo.shown _ _ l)))
theorem AftS.toFb {K : PySem.W.Frag} {mg : Str → Option Value} {ι : Nm} {H : Hp} {σ : L2.St} {env : Env} {E : Ends} {S : Sto} {c : DAn} {i : Nat} (hE : RepE K mg ι H σ env) (q : AftS K mg W ι H (sSet i (cBox c) env S) E) :
    AftF K mg (fun cls dd H' => W cls dd σ H') ι H (c env S) fun v H1 => E.nx (σ.set i (some v)) H1 := by
  have q : AftS K mg W ι H (((c env S).bind fun ds S1 => .ok (.cel S1.length) (S1 ++ [.lst ds])).th env fun d S1 => .nx (env.set i (some d)) S1) E := q
  cases hr : c env S with
  | bad => rw [hr] at q; exact q
  | exn x S' =>
    rw [hr] at q
    exact fun ι1 H1 cls dd x1 s1 r1 => q ι1 H1 σ cls dd x1 s1 (hE.ext x1) r1
  | ok ds S1 =>
    rw [hr] at q
    refine fun ι1 H1 p vs x1 s1 n m e l => q (ι1.add p) H1 _ (x1.named (K := K) (mg := mg) n) (s1.named m ⟨vs, e, RepL.mo Mo.named _ _ l⟩) (((hE.ext (x1.named (K := K) (mg := mg) n))).set (.cel ?_))
    have hl : ι1.ns.length = S1.length := s1.len
    show (ι1.ns ++ [p])[S1.length]? = some p
    rw [← hl, List.getElem?_append_right (Nat.le_refl _), Nat.sub_self]
    rfl
section
variable {y : Str} {py spos : Pos}
theorem ss_setLc (gX : Go X W) (i : Nat) (own : List (Str × Nat)) (hi : SI X W tg iter ci) (ok : BlkOk X.N X.env.scope scope own) (cg : Calm g)
    (hg : ∀ (s : Shared) (H : Hp) (C : Addr) (cl : List (Str × Addr)) (fp : List Addr), SGv (X.blk s H scope (compEnvC scope cl C X.env) fp) (own.map (·.2)) tg g)
    (ht : ∀ (s : Shared) (H : Hp) (C : Addr) (cl : List (Str × Addr)) (fp : List Addr), STs (X.blk s H scope (compEnvC scope cl C X.env) fp) W0 ifs t)
    (he : ∀ (s : Shared) (H : Hp) (C : Addr) (cl : List (Str × Addr)) (fp : List Addr), SE (X.blk s H scope (compEnvC scope cl C X.env) fp) W0 elt e) (hy : X.N[i]? = some y := by rfl) (hyl : X.env.scope.names.lookup y = some .local := by rfl)
    (hsw : swapsWith (.ListComp elt [⟨tg, iter, ifs, 0⟩] scope pos) (some (.Name y py)) spos.line X.env = pure true := by exact sw_true rfl rfl rfl rfl) (hs : ∀ x, foldedSetIterable iter X.env x = pure x := by intro _; rfl) :
    SS X W (.Assign [.Name y py] (.ListComp elt [⟨tg, iter, ifs, 0⟩] scope pos) spos) (sSet i (cVal (cLc ci g t e (own.map (·.2))))) :=
  PS.weak (ps_setLc gX.calm gX.nd hy hyl hsw hi ok hg ht he hs) fun D σ H h => by
    obtain ⟨ι, env, S, hS, hE, q⟩ := h
    exact lc_imp (Q := fun x H1 => gName i x σ H1 D.nx) cg ⟨ι, env, S, hS, hE, AftS.toF hE q⟩
theorem ss_setLcB (gX : Go X W) (i : Nat) (own : List (Str × Nat)) (hi : SI X W tg iter ci) (ok : BlkOk X.N X.env.scope scope own) (cg : Calm g)
    (hg : ∀ (s : Shared) (H : Hp) (C : Addr) (cl : List (Str × Addr)) (fp : List Addr), SGv (X.blk s H scope (compEnvC scope cl C X.env) fp) (own.map (·.2)) tg g)
    (ht : ∀ (s : Shared) (H : Hp) (C : Addr) (cl : List (Str × Addr)) (fp : List Addr), STs (X.blk s H scope (compEnvC scope cl C X.env) fp) W0 ifs t)
    (he : ∀ (s : Shared) (H : Hp) (C : Addr) (cl : List (Str × Addr)) (fp : List Addr), SE (X.blk s H scope (compEnvC scope cl C X.env) fp) W0 elt e) (hy : X.N[i]? = some y := by rfl) (hyl : X.env.scope.names.lookup y = some .local := by rfl)
    (hsw : swapsWith (.ListComp elt [⟨tg, iter, ifs, 0⟩] scope pos) (some (.Name y py)) spos.line X.env = pure true := by exact sw_true rfl rfl rfl rfl) (hs : ∀ x, foldedSetIterable iter X.env x = pure x := by intro _; rfl) :
    SS X W (.Assign [.Name y py] (.ListComp elt [⟨tg, iter, ifs, 0⟩] scope pos) spos) (sSet i (cBox (cLc ci g t e (own.map (·.2))))) :=
  PS.weak (ps_setLc gX.calm gX.nd hy hyl hsw hi ok hg ht he hs) fun D σ H h => by
    obtain ⟨ι, env, S, hS, hE, q⟩ := h
    exact lc_imp (Q := fun x H1 => gName i x σ H1 D.nx) cg ⟨ι, env, S, hS, hE, AftS.toFb hE q⟩
end
end
end DL
end

section
set_option Elab.async false
set_option linter.all false
set_option maxRecDepth 100000
set_option maxHeartbeats 4000000
set_option autoImplicit false
/-! methods of lists, stores into lists, in, count, isinstance, repr -/
namespace DL
open PySem PySem.Spec PyProof.Rows L2

theorem PE.or {X : Cx} {e : Expr} {t t' : TE} (h : PE X e t) (h' : PE X e t') : PE X e (fun σ H Q => t σ H Q ∨ t' σ H Q) := ⟨fun pins s σ H Q I q => by
  rcases q with q | q
  · exact h.run pins s σ H Q I q
  · exact h'.run pins s σ H Q I q⟩
/-- a method's reading: on data -/
def PM (K : PySem.W.Frag) (mg : Str → Option Value) (r : V → List V → Hp → VK → Prop) (f : D → List D → Sto → Res D) : Prop := ∀ (ι : Nm) (H : Hp) (S : Sto) (x : V) (d : D) (vs : List V) (ds : List D) (We : WE) (Q : VK),
  SimS K mg ι H S → RepV K mg ι H x d → RepL K mg ι H vs ds → Aft K mg (RepV K mg) We ι H (f d ds S) Q → r x vs H Q
/-- o.m(..), o a list -/
def cMeth (f : D → List D → Sto → Res D) (o : DEn) (a : DAn) : DEn := fun env S => (o env S).bind fun x S1 => if (listOf S1 x).isSome = true then (a env S1).bind fun ys S2 => f x ys S2 else .bad
section
variable {X : Cx} {W : WX} {o e : Expr} {es : List Expr} {name : Str} {apos cpos : Pos} {id : String} {r : V → List V → Hp → VK → Prop} {f : D → List D → Sto → Res D} {co : DEn} {ca : DAn}
theorem tyL {K : PySem.W.Frag} {mg : Str → Option Value} {ι : Nm} {H : Hp} {S : Sto} {v : V} {d : D} (hS : SimS K mg ι H S) (r : RepV K mg ι H v d) (h : (listOf S d).isSome = true) : tyV K "list" v H := by
  cases e : listOf S d with
  | none => rw [e] at h; cases h
  | some ds =>
    obtain ⟨a, vs, rfl, hq, l⟩ := hS.list r e
    exact .inl ⟨rfl, vs, hq⟩
theorem meth_imp {h : PM X.K X.mg r f} {σ : L2.St} {H : Hp} {Q : VK} (q : tD X.K X.mg W (cMeth f co ca) σ H Q) : tBM X.K "list" r (tD X.K X.mg W co) (tDA X.K X.mg W ca) σ H Q := by
  obtain ⟨ι, env, S, hS, hE, q⟩ := q
  refine tD.seq hS hE q fun ι1 H1 v d S1 _ x1 s1 e1 r1 q1 => ?_
  split at q1
  · rename_i hl
    refine ⟨tyL s1 r1 hl, tDA.seq s1 e1 q1 fun ι2 H2 vs ds S2 _ x2 s2 e2 r2 q2 => h ι2 H2 S2 v d vs ds _ Q s2 (r1.ext x2) r2 q2⟩
  · exact q1.elim
theorem se_meth (slot : Slot "list" name id) (hty : typeOf (.builtin id) = pure (.type "method_descriptor")) (hm : MtR X id r) (h : PM X.K X.mg r f) (ho : SE X W o co) (ha : SA X W (e :: es) ca)
    (hbase : attributeBase o name X.env (eval o X.env) = eval o X.env := by rfl)
    (hfew : ((backTo cpos (starEach (e :: es) X.env)).all (fun x => !x.1) && (backToKw cpos (keywordEach [] X.env)).all (fun x => x.1.isSome)
      && decide ((e :: es).length + ([] : List Keyword).length + (if ([] : List Keyword).isEmpty then 0 else 1) < 30)) = true := by rfl)
    (hline : (apos.endLine == cpos.line) = true := by rfl) (hs : starEach (e :: es) X.env = (false, eval e X.env) :: starEach es X.env := by rfl) (hplain : (backTo cpos (starEach es X.env)).any (·.1) = false := by rfl) :
    SE X W (.Call (.Attribute o name apos) (e :: es) [] cpos) (cMeth f co ca) := PE.weak (pe_bm PySem.F.plainAttrs_list slot hty hm ho ha hbase hfew hline hs hplain) fun σ H Q q => meth_imp (h := h) q
theorem se_meth0 (slot : Slot "list" name id) (hty : typeOf (.builtin id) = pure (.type "method_descriptor")) (hm : MtR X id r) (h : PM X.K X.mg r f) (ho : SE X W o co)
    (hbase : attributeBase o name X.env (eval o X.env) = eval o X.env := by rfl) (hline : (apos.endLine == cpos.line) = true := by rfl) :
    SE X W (.Call (.Attribute o name apos) [] [] cpos) (cMeth f co cNil) := PE.weak (pe_bm0 PySem.F.plainAttrs_list slot hty hm ho hbase hline) fun σ H Q q => by
  obtain ⟨ι, env, S, hS, hE, q⟩ := q
  refine tD.seq hS hE q fun ι1 H1 v d S1 _ x1 s1 e1 r1 q1 => ?_
  split at q1
  · rename_i hl
    exact ⟨tyL s1 r1 hl, h ι1 H1 S1 v d [] [] _ Q s1 r1 .nil q1⟩
  · exact q1.elim
end
/-- a list of the store, rewritten -/
theorem Aft.wrL {K : PySem.W.Frag} {mg : Str → Option Value} {We : WE} {ι : Nm} {H : Hp} {S : Sto} {n : Nat} {a : Addr} {ds : List D} {vs : List V} {d : D} {v : V} {Q : VK} (hS : SimS K mg ι H S) (hn : ι.ns[n]? = some a) (l : RepL K mg ι H vs ds)
    (q : Aft K mg (RepV K mg) We ι H (.ok d (S.set n (.lst ds))) Q) (r : RepV K mg ι H v d) : Q v (upd H a (.lst vs)) := by
  have x : Ext ι H ι (upd H a (.lst vs)) := Ext.wr (List.mem_of_getElem? hn)
  exact q ι _ v x (hS.wr hn ⟨vs, upd_same, l.ext x⟩) (r.ext x)
def fAppend : D → List D → Sto → Res D
  | .cel n, [y], S => (match S[n]? with
    | some (.lst ds) => if ds.length < LIM then .ok .non (S.set n (.lst (ds ++ [y]))) else .bad
    | _ => .bad)
  | _, _, _ => .bad
/-- a list that may be read where it is tracked -/
def strictOf (S : Sto) : D → Option (List D)
  | .lst ds => some ds
  | .cel n => (match S[n]? with
    | some (.lst ds) => some ds
    | _ => none)
  | _ => none
def fExtend : D → List D → Sto → Res D
  | .cel n, [y], S => (match S[n]?, strictOf S y with
    | some (.lst ds), some es => if ds.length + es.length ≤ LIM then .ok .non (S.set n (.lst (ds ++ es))) else .bad
    | _, _ => .bad)
  | _, _, _ => .bad
def fPop : D → List D → Sto → Res D
  | .cel n, [], S => (match S[n]? with
    | some (.lst ds) => (match ds[ds.length - 1]? with
      | some d => .ok d (S.set n (.lst ds.dropLast))
      | none => .bad)
    | _ => .bad)
  | _, _, _ => .bad
section
variable {X : Cx}
theorem celAt {K : PySem.W.Frag} {mg : Str → Option Value} {ι : Nm} {H : Hp} {S : Sto} {n : Nat} {v : V} {ds : List D} (hS : SimS K mg ι H S) (r : RepV K mg ι H v (.cel n)) (e : S[n]? = some (.lst ds)) : ∃ a vs, v = .ref a ∧ ι.ns[n]? = some a ∧ H a = some (.lst vs) ∧ RepL K mg ι H vs ds := by
  cases r with
  | cel hn =>
    obtain ⟨vs, q, l⟩ := hS.at_ _ _ _ e hn
    exact ⟨_, vs, rfl, hn, q, l⟩
theorem strictAt {K : PySem.W.Frag} {mg : Str → Option Value} {ι : Nm} {H : Hp} {S : Sto} {v : V} {d : D} {ds : List D} (hS : SimS K mg ι H S) (r : RepV K mg ι H v d) (e : strictOf S d = some ds) : ∃ a vs, v = .ref a ∧ H a = some (.lst vs) ∧ RepL K mg ι H vs ds := by
  cases d with
  | lst es =>
    cases e
    exact r.sqL
  | cel n =>
    have e : (match S[n]? with | some (.lst ds) => some ds | _ => none) = some ds := e
    cases q : S[n]? with
    | none => rw [q] at e; cases e
    | some c =>
      rw [q] at e
      cases c with
      | lst es =>
        cases e
        obtain ⟨a, vs, e1, _, e3, l⟩ := celAt hS r q
        exact ⟨a, vs, e1, e3, l⟩
      | ins _ _ _ => cases e
      | dct _ _ => cases e
  | _ => cases e
theorem p_append : PM X.K X.mg rAppend fAppend := by
  intro ι H S x d vs ds We Q hS r l q
  cases d with
  | cel n =>
    match ds, l, q with
    | [y], .cons (v := u) ry .nil, q =>
      cases e : S[n]? with
      | none => simp only [fAppend, e] at q; exact q.elim
      | some c =>
        cases c with
        | ins _ _ _ => simp only [fAppend, e] at q; exact q.elim
        | dct _ _ => simp only [fAppend, e] at q; exact q.elim
        | lst es =>
          simp only [fAppend, e] at q
          split at q
          · rename_i hz
            obtain ⟨a, us, rfl, hn, hH, le⟩ := celAt hS r e
            exact ⟨a, us, u, rfl, rfl, hH, by rw [lim_eq, le.length]; exact hz, Aft.wrL hS hn (le.append (.cons ry .nil)) q .non⟩
          · exact q.elim
    | [], _, q => exact q.elim
    | _ :: _ :: _, _, q => exact q.elim
  | _ => exact q.elim
theorem p_extend : PM X.K X.mg rExtend fExtend := by
  intro ι H S x d vs ds We Q hS r l q
  cases d with
  | cel n =>
    match ds, l, q with
    | [y], .cons (v := u) ry .nil, q =>
      cases e : S[n]? with
      | none => simp only [fExtend, e] at q; exact q.elim
      | some c =>
        cases c with
        | ins _ _ _ => simp only [fExtend, e] at q; exact q.elim
        | dct _ _ => simp only [fExtend, e] at q; exact q.elim
        | lst es =>
          cases e2 : strictOf S y with
          | none => simp only [fExtend, e, e2] at q; exact q.elim
          | some fs =>
            simp only [fExtend, e, e2] at q
            split at q
            · rename_i hz
              obtain ⟨a, us, rfl, hn, hH, le⟩ := celAt hS r e
              obtain ⟨b, ws, rfl, hB, lf⟩ := strictAt hS ry e2
              exact ⟨a, b, us, ws, rfl, rfl, hH, hB, by rw [lim_eq, le.length, lf.length]; exact hz, Aft.wrL hS hn (le.append lf) q .non⟩
            · exact q.elim
    | [], _, q => exact q.elim
    | _ :: _ :: _, _, q => exact q.elim
  | _ => exact q.elim
theorem RepL.dropLast {K : PySem.W.Frag} {mg : Str → Option Value} {ι : Nm} {H : Hp} {vs : List V} {ds : List D} (l : RepL K mg ι H vs ds) : RepL K mg ι H vs.dropLast ds.dropLast := by
  rw [List.dropLast_eq_take, List.dropLast_eq_take, l.length]
  exact l.take _
theorem p_pop : PM X.K X.mg rPop fPop := by
  intro ι H S x d vs ds We Q hS r l q
  cases d with
  | cel n =>
    match ds, l, q with
    | [], .nil, q =>
      cases e : S[n]? with
      | none => simp only [fPop, e] at q; exact q.elim
      | some c =>
        cases c with
        | ins _ _ _ => simp only [fPop, e] at q; exact q.elim
        | dct _ _ => simp only [fPop, e] at q; exact q.elim
        | lst es =>
          simp only [fPop, e] at q
          cases e2 : es[es.length - 1]? with
          | none => simp only [e2] at q; exact q.elim
          | some y =>
            simp only [e2] at q
            obtain ⟨a, us, rfl, hn, hH, le⟩ := celAt hS r e
            obtain ⟨v, h1, h2⟩ := le.get e2
            exact ⟨a, us, v, rfl, rfl, hH, by rw [le.length]; exact h1, Aft.wrL hS hn le.dropLast q h2⟩
    | _ :: _, _, q => exact q.elim
  | _ => exact q.elim
end
end DL
end

section
set_option Elab.async false
set_option linter.all false
set_option maxRecDepth 100000
set_option maxHeartbeats 4000000
set_option autoImplicit false
namespace DL
open PySem PySem.Spec PyProof.Rows L2

/-! ### xs[i] = v, xs[i] op= v, x op= v -/
theorem get_list {X : Cx} : PGet X (rIxL X.K) := by
  intro pins s σ H o i ov iv Q I ro ri h
  obtain ⟨p, xs, i, z, rfl, rfl, hq, he, q⟩ := h
  cases ro
  obtain ⟨t, rfl⟩ := ri
  obtain ⟨its, r, pl, hz⟩ := I.list hq
  obtain ⟨j, h1, h2, h3, h4, h5⟩ := atI_get he
  obtain ⟨w, ew, rw'⟩ := r.get h2
  have hl := r.length
  have hn := line63
  have fin : EP X pins σ Q w s := ⟨z, H, I, rw', q⟩
  by_cases h0 : 0 ≤ i
  · have hj : i.toNat = j := by
      rw [seqIndex_of h0 h5] at h1
      exact Option.some.inj h1
    exact wpAny_getItem_list pl.isList h0 (by omega) (by rw [hj]; simpa using ew) fin
  · have hj : (i + (its.toArray.size : Int)).toNat = j := by
      rw [seqIndex_neg (by omega) h4] at h1
      rw [List.size_toArray, ← hl]
      exact Option.some.inj h1
    exact wpAny_getItem_list_neg pl.isList (by omega) (by rw [List.size_toArray] <;> omega) (by omega) (by rw [hj]; simpa using ew) fin
/-- a store into a list of the store -/
def setD (S : Sto) (x i v : D) : Option Sto := match x, i with
  | .cel n, .int k => (match S[n]? with
    | some (.lst ds) => (ixN ds.length k).map fun j => S.set n (.lst (ds.set j v))
    | _ => none)
  | _, _ => none
def gSubD (o i : DEn) : DGn := fun v env S => (o env S).th env fun x S1 => (i env S1).th env fun k S2 => match setD S2 x k v with
  | some S3 => .nx env S3
  | none => .bad
def sAugS (f : D → D → Sto → Res D) (o i e : DEn) : DSn := fun env S => (o env S).th env fun x S1 => match x with
  | .cel n => (i env S1).th env fun k S2 => (oIx (.cel n) k S2).th env fun a S3 => (e env S3).th env fun b S4 => (f a b S4).th env fun v S5 => match setD S5 (.cel n) k v with
    | some S6 => .nx env S6
    | none => .bad
  | _ => .bad
def sAug (i : Nat) (f : D → D → Sto → Res D) (e : DEn) : DSn := fun env S => match env[i]? with
  | some (some a) => (e env S).th env fun b S1 => (f a b S1).th env fun v S2 => .nx (env.set i (some v)) S2
  | _ => .bad
section
variable {K : PySem.W.Frag} {mg : Str → Option Value} {W : WX} {ι : Nm} {H : Hp} {S : Sto} {σ : L2.St} {env : Env}
theorem set_imp {x i v : D} {ox oi ov : V} {S' : Sto} {Q : Hp → Prop} (hS : SimS K mg ι H S) (rx : RepV K mg ι H ox x) (ri : RepV K mg ι H oi i) (rv : RepV K mg ι H ov v) (e : setD S x i v = some S')
    (q : ∀ H', Ext ι H ι H' → SimS K mg ι H' S' → Q H') : rSetL ox oi ov H Q := by
  unfold setD at e
  split at e
  · rename_i n k
    cases ri
    split at e
    · rename_i ds hc
      obtain ⟨j, hj, rfl⟩ := Option.map_eq_some_iff.mp e
      obtain ⟨a, vs, rfl, hn, hH, l⟩ := celAt hS rx hc
      refine ⟨a, vs, k, j, rfl, rfl, hH, by rw [l.length]; exact hj, ?_⟩
      have x : Ext ι H ι (upd H a (.lst (vs.set j ov))) := Ext.wr (List.mem_of_getElem? hn)
      exact q _ x (hS.wr hn ⟨_, upd_same, (l.set j rv).ext x⟩)
    · cases e
  · cases e
end
section
variable {X : Cx} {W : WX} {o i e : Expr} {pos tpos : Pos} {co ci ce : DEn}
theorem sg_sub (ho : SE X W o co) (hi : SE X W i ci)
    (ha : ∀ v, assign (.Subscript o i pos) X.env v = (do
      let ov ← holding [v] (eval o X.env)
      let iv ← holding [v, ov] (eval i X.env)
      standAt pos
      holding [v, ov, iv] (setItem ov iv v)
      release [v, ov, iv] []) := by intro _; rfl) : SG X W (.Subscript o i pos) (gSubD co ci) := PG.weak (pg_sub ho hi set_list ha) fun v σ H Q h => by
  obtain ⟨ι, env, S, d, hS, hE, hV, q⟩ := h
  refine tD.th hS hE q fun ι1 H1 ov x S1 _ x1 s1 e1 r1 q1 => ?_
  refine tD.th s1 e1 q1 fun ι2 H2 iv k S2 _ x2 s2 e2 r2 q2 => ?_
  cases e : setD S2 x k d with
  | none => rw [e] at q2; exact q2.elim
  | some S3 =>
    rw [e] at q2
    exact set_imp s2 (r1.ext x2) r2 ((hV.ext x1).ext x2) e fun H' x' s' => q2 ι2 H' σ x' s' (e2.ext x')
/-- .. op: the operation in place -/
def PI2 (K : PySem.W.Frag) (mg : Str → Option Value) (r : TIp) (f : D → D → Sto → Res D) : Prop :=
  ∀ (ι : Nm) (H : Hp) (S : Sto) (x y : D) (v u : V) (We : WE) (Q : VK), SimS K mg ι H S → RepV K mg ι H v x → RepV K mg ι H u y → Aft K mg (RepV K mg) We ι H (f x y S) Q → r v u H Q
theorem ss_augS {op : Operator} {r : TIp} {f : D → D → Sto → Res D} (ho : SE X W o co) (hi : SE X W i ci) (he : SE X W e ce) (hp : PIp X op r) (hr : PI2 X.K X.mg r f)
    (ha : ∀ ov iv new, augStore i ov iv new = (do holding [new, ov, iv] (setItem ov iv new); release [new, ov, iv] []; pure .next) := by intros; rfl) :
    SS X W (.AugAssign (.Subscript o i tpos) op e pos) (sAugS f co ci ce) := PS.weak (ps_augS ho hi get_list he hp set_list ha) fun D σ H h => by
  obtain ⟨ι, env, S, hS, hE, q⟩ := h
  refine tD.th hS hE q fun ι1 H1 ov x S1 _ x1 s1 e1 r1 q1 => ?_
  cases x with
  | cel n =>
    refine tD.th s1 e1 q1 fun ι2 H2 iv k S2 _ x2 s2 e2 r2 q2 => ?_
    have rx := r1.ext x2
    cases k with
    | int z =>
      obtain rfl := r2.int_
      cases ec : S2[n]? with
      | none => simp only [oIx, seqOf, listOf, ec] at q2; exact q2.elim
      | some c =>
        cases c with
        | ins _ _ _ => simp only [oIx, seqOf, listOf, ec] at q2; exact q2.elim
        | dct _ _ => simp only [oIx, seqOf, listOf, ec] at q2; exact q2.elim
        | lst ds =>
          simp only [oIx, seqOf, listOf, ec] at q2
          cases ea : atI ds z with
          | none => simp only [ea] at q2; exact q2.elim
          | some d =>
            simp only [ea] at q2
            obtain ⟨a, vs, rfl, hn, hH, l⟩ := celAt s2 rx ec
            obtain ⟨w, h1, h2⟩ := atI_rep l ea
            refine ⟨a, vs, z, w, rfl, rfl, .inl (.inl hH), h1, ?_⟩
            have q2 : AftS X.K X.mg W ι2 H2 ((ce env S2).th env fun b S4 => (f d b S4).th env fun v S5 => match setD S5 (.cel n) (.int z) v with
              | some S6 => .nx env S6
              | none => .bad) D := q2
            refine tD.th s2 e2 q2 fun ι4 H4 bv b S4 _ x4 s4 e4 r4 q4 => ?_
            refine hr ι4 H4 S4 d b w bv _ _ s4 (h2.ext x4) r4 (AftS.th e4 q4 fun ι5 H5 v5 d5 S5 _ x5 s5 r5 q5 => ?_)
            cases es : setD S5 (.cel n) (.int z) d5 with
            | none => rw [es] at q5; exact q5.elim
            | some S6 =>
              rw [es] at q5
              exact set_imp s5 ((rx.ext x4).ext x5) (.int z) r5 es fun H' x' s' => q5 ι5 H' σ x' s' ((e4.ext x5).ext x')
    | _ => simp only [oIx] at q2; exact q2.elim
  | _ => exact q1.elim
theorem ss_aug (gX : Go X W) (i : Nat) {x : Str} {op : Operator} {r : TIp} {f : D → D → Sto → Res D} (he : SE X W e ce) (hp : PIp X op r) (hr : PI2 X.K X.mg r f) (hi : X.N[i]? = some x := by rfl) (hx : Loc X.env.scope x := by first | exact Or.inl rfl | exact Or.inr rfl)
    (hf : X.fn x = true ∨ X.env.scope.names.lookup x = some .local := by first | exact .inl rfl | exact .inr rfl) : SS X W (.AugAssign (.Name x tpos) op e pos) (sAug i f ce) := PS.weak (ps_aug gX.nd hi hx he hp hf) fun D σ H h => by
  obtain ⟨ι, env, S, hS, hE, q⟩ := h
  unfold sAug at q
  cases ei : env[i]? with
  | none => rw [ei] at q; exact q.elim
  | some o =>
    rw [ei] at q
    cases o with
    | none => exact q.elim
    | some a =>
      obtain ⟨v, h1, r1⟩ := hE.at_ i a ei
      refine ⟨v, h1, ?_⟩
      have q : AftS X.K X.mg W ι H ((ce env S).th env fun b S1 => (f a b S1).th env fun v S2 => .nx (env.set i (some v)) S2) D := q
      refine tD.th hS hE q fun ι4 H4 bv b S4 _ x4 s4 e4 r4 q4 => ?_
      refine hr ι4 H4 S4 a b v bv _ _ s4 (r1.ext x4) r4 (AftS.th e4 q4 fun ι5 H5 v5 d5 S5 _ x5 s5 r5 q5 => ?_)
      exact q5.nx_ (σ' := σ.set i (some v5)) s5 ((e4.ext x5).set r5)
def oAddI : D → D → Sto → Res D
  | .int a, .int b, S => .ok (.int (a + b)) S
  | _, _, _ => .bad
theorem pi_add : PI2 X.K X.mg (ipI fun i j => i + j) oAddI := by
  intro ι H S x y v u We Q hS rx ry q
  unfold oAddI at q
  split at q
  · cases rx
    cases ry
    exact ⟨_, _, rfl, rfl, Aft.done q hS (.int _)⟩
  · exact q.elim
end

/-! ### in -/
def rInT (K : PySem.W.Frag) : R2 := fun x y H Q => ∃ d ds, Dp K H x d ∧ Dp K H y (.tuple ds) ∧ SeqAt.shaped d = true ∧ SeqAt.shaped (.list ds) = true ∧ Q (.bl (ds.any fun z => PyData.eqv z d)) H
def rNotInT (K : PySem.W.Frag) : R2 := fun x y H Q => ∃ d ds, Dp K H x d ∧ Dp K H y (.tuple ds) ∧ SeqAt.shaped d = true ∧ SeqAt.shaped (.list ds) = true ∧ Q (.bl (!ds.any fun z => PyData.eqv z d)) H
theorem OpR.or {X : Cx} {op : Value → Value → Sem Value} {r r' : R2} (h : OpR X op r) (h' : OpR X op r') : OpR X op (fun x y H Q => r x y H Q ∨ r' x y H Q) := by
  intro pins s σ H x y v u Q I rx ry q
  rcases q with q | q
  · exact h pins s σ H x y v u Q I rx ry q
  · exact h' pins s σ H x y v u Q I rx ry q
theorem op_inT {X : Cx} (hu : X.A.units + 65 < cLine) : OpR X (compareOp .In) (rInT X.K) := by
  intro pins s σ H x y v u Q I rx ry h
  obtain ⟨d, ds, hd, he, sd, se, q⟩ := h
  obtain ⟨as, r1⟩ := Dp.reads I d x v hd rx
  obtain ⟨bs, r2⟩ := Dp.reads I (.tuple ds) y u he ry
  exact SeqAt.in_tuple_reads r2 r1 (SeqAt.canLay_of_shaped se) (SeqAt.canLay_of_shaped sd) (room_in_shaped sd hu) ⟨.bl _, H, I, rfl, q⟩
theorem op_notInT {X : Cx} (hu : X.A.units + 65 < cLine) : OpR X (compareOp .NotIn) (rNotInT X.K) := by
  intro pins s σ H x y v u Q I rx ry h
  obtain ⟨d, ds, hd, he, sd, se, q⟩ := h
  obtain ⟨as, r1⟩ := Dp.reads I d x v hd rx
  obtain ⟨bs, r2⟩ := Dp.reads I (.tuple ds) y u he ry
  exact SeqAt.notIn_tuple_reads r2 r1 (SeqAt.canLay_of_shaped se) (SeqAt.canLay_of_shaped sd) (room_in_shaped sd hu) ⟨.bl _, H, I, rfl, q⟩
def rInA (K : PySem.W.Frag) : R2 := fun x y H Q => rInD K x y H Q ∨ rInT K x y H Q
def rNotInA (K : PySem.W.Frag) : R2 := fun x y H Q => rNotInD K x y H Q ∨ rNotInT K x y H Q
theorem op_inA {X : Cx} (hu : X.A.units + 65 < cLine) : OpR X (compareOp .In) (rInA X.K) := OpR.or (op_inD hu) (op_inT hu)
theorem op_notInA {X : Cx} (hu : X.A.units + 65 < cLine) : OpR X (compareOp .NotIn) (rNotInA X.K) := OpR.or (op_notInD hu) (op_notInT hu)
def oIn (x y : D) (S : Sto) : Res D := match inD S x y with
  | some b => .ok (.bl b) S
  | none => .bad
def oNotIn (x y : D) (S : Sto) : Res D := match inD S x y with
  | some b => .ok (.bl (!b)) S
  | none => .bad
theorem inD_some {S : Sto} {x y : D} {b : Bool} (h : inD S x y = some b) : ∃ ds p ps, seqOf S y = some ds ∧ pyS S x = some p ∧ pySL S ds = some ps ∧ SeqAt.shaped p = true ∧ SeqAt.shaped (.list ps) = true ∧ (ps.any fun q => PyData.eqv q p) = b := by
  unfold inD at h
  cases e : seqOf S y with
  | none => rw [e] at h; cases h
  | some ds =>
    cases e1 : pyS S x with
    | none => rw [e, e1] at h; cases h
    | some p =>
      cases e2 : pySL S ds with
      | none => rw [e, e1] at h; simp only [Option.bind_some, e2] at h; cases h
      | some ps =>
        rw [e, e1] at h
        simp only [Option.bind_some, e2] at h
        split at h
        · rename_i z
          cases h
          exact ⟨ds, p, ps, rfl, rfl, e2, z.1, z.2, rfl⟩
        · cases h
theorem seq_dp {K : PySem.W.Frag} {mg : Str → Option Value} {ι : Nm} {H : Hp} {S : Sto} {v : V} {d : D} {ds : List D} {ps : List PyData} (hS : SimS K mg ι H S) (r : RepV K mg ι H v d) (e : seqOf S d = some ds) (e2 : pySL S ds = some ps) : Dp K H v (.list ps) ∨ Dp K H v (.tuple ps) := by
  obtain ⟨a, vs, rfl, hq, l⟩ := hS.seq r e
  have dl := hS.dpL ds vs ps l e2
  rcases hq with hq | hq
  · exact .inl (.lst hq dl)
  · exact .inr (.tup hq dl)
section
variable {X : Cx}
theorem p_in : P2 X.K X.mg (rInA X.K) oIn := by
  intro ι H S x y v u We Q hS rx ry q
  unfold oIn at q
  cases e : inD S x y with
  | none => rw [e] at q; exact q.elim
  | some b =>
    rw [e] at q
    obtain ⟨ds, p, ps, e0, e1, e2, h1, h2, rfl⟩ := inD_some e
    have dx := hS.dp x v p rx e1
    rcases seq_dp hS ry e0 e2 with h | h
    · exact .inl ⟨p, ps, dx, h, h1, h2, Aft.done q hS (.bl _)⟩
    · exact .inr ⟨p, ps, dx, h, h1, h2, Aft.done q hS (.bl _)⟩
theorem p_notIn : P2 X.K X.mg (rNotInA X.K) oNotIn := by
  intro ι H S x y v u We Q hS rx ry q
  unfold oNotIn at q
  cases e : inD S x y with
  | none => rw [e] at q; exact q.elim
  | some b =>
    rw [e] at q
    obtain ⟨ds, p, ps, e0, e1, e2, h1, h2, rfl⟩ := inD_some e
    have dx := hS.dp x v p rx e1
    rcases seq_dp hS ry e0 e2 with h | h
    · exact .inl ⟨p, ps, dx, h, h1, h2, Aft.done q hS (.bl _)⟩
    · exact .inr ⟨p, ps, dx, h, h1, h2, Aft.done q hS (.bl _)⟩
end

/-! ### count -/
def rCountD (K : PySem.W.Frag) : V → List V → Hp → VK → Prop := fun x xs H Q => ∃ (a : Addr) (y : V) (d : PyData) (ds : List PyData), x = V.ref a ∧ xs = [y] ∧ Dp K H (V.ref a) (.list ds) ∧ Dp K H y d ∧ SeqAt.shaped (.list ds) = true ∧ SeqAt.shaped d = true ∧ Q (.int (ds.countP fun z => PyData.eqv z d : Nat)) H
def rCountT (K : PySem.W.Frag) : V → List V → Hp → VK → Prop := fun x xs H Q => ∃ (a : Addr) (y : V) (d : PyData) (ds : List PyData), x = V.ref a ∧ xs = [y] ∧ Dp K H (V.ref a) (.tuple ds) ∧ Dp K H y d ∧ SeqAt.shaped (.list ds) = true ∧ SeqAt.shaped d = true ∧ Q (.int (ds.countP fun z => PyData.eqv z d : Nat)) H
theorem countP_read {h : Heap} {its : List Value} {ds : List PyData} {as : List Addr} {d : PyData} (h4 : ReadsAll h its ds as) (hxs : PyData.canLayAll0 ds = true) : its.toArray.toList.countP (fun u => PyData.eqv (SeqAt.readOf h u) d) = ds.countP fun z => PyData.eqv z d := by
  have e : its.map (SeqAt.readOf h) = ds := SeqAt.readsAll_map ds its as hxs h4
  rw [← e, List.countP_map]
  rfl
theorem mt_countD {X : Cx} (hu : X.A.units + 65 < cLine) : MtR X "list.count" (rCountD X.K) := by
  intro pins s σ H x xs v us Q I rx rxs h
  obtain ⟨a, y, d, ds, rfl, rfl, hl, hy, sl, sd, q⟩ := h
  cases rx
  obtain ⟨uy, rfl, ry⟩ := rxs.one
  obtain ⟨bs, r1⟩ := Dp.reads I d y uy hy ry
  have hxs : PyData.canLayAll0 ds = true := SeqAt.canLay_of_shaped sl
  have hroom : X.A.units + 1 + min (PyData.depthAll ds) d.depth < cLine := room_in_shaped sd hu
  cases hl with
  | lst hs ha =>
    obtain ⟨its, rv, ⟨⟨cls, dd, data, sls⟩, n, ho, hc, hdn, hdt⟩, hlen⟩ := I.list hs
    simp only at hc hdt
    subst hc hdt
    obtain ⟨as, h4⟩ := Dp.readsAll I ds _ its ha rv
    refine call_meets PySem.F.slot_list_count ⟨_, ho, rfl⟩ PySem.F.entry_list_count (PySem.F.args_list_count_2 _ _)
      (SeqAt.list_countAt a its.toArray n dd sls uy (fun u => PyData.eqv (SeqAt.readOf s.heap u) d)) ⟨ho, SeqAt.items_eqAt (vs := its.toArray) (show ReadsAll s.heap its.toArray.toList ds as from h4) r1 hxs (SeqAt.canLay_of_shaped sd) hroom, ?_⟩
    rw [countP_read h4 hxs]
    exact ⟨.int _, H, I.tok _, ⟨_, rfl⟩, q⟩
theorem mt_countT {X : Cx} (hu : X.A.units + 65 < cLine) : MtR X "tuple.count" (rCountT X.K) := by
  intro pins s σ H x xs v us Q I rx rxs h
  obtain ⟨a, y, d, ds, rfl, rfl, hl, hy, sl, sd, q⟩ := h
  cases rx
  obtain ⟨uy, rfl, ry⟩ := rxs.one
  obtain ⟨bs, r1⟩ := Dp.reads I d y uy hy ry
  have hxs : PyData.canLayAll0 ds = true := SeqAt.canLay_of_shaped sl
  have hroom : X.A.units + 1 + min (PyData.depthAll ds) d.depth < cLine := room_in_shaped sd hu
  cases hl with
  | tup hs ha =>
    obtain ⟨its, rv, ⟨⟨cls, dd, data, sls⟩, ho, hc, n, hdt⟩, hlen⟩ := I.tuple hs
    simp only at hc hdt
    subst hc hdt
    obtain ⟨as, h4⟩ := Dp.readsAll I ds _ its ha rv
    refine call_meets PySem.F.slot_tuple_count ⟨_, ho, rfl⟩ PySem.F.entry_tuple_count (PySem.F.args_tuple_count_2 _ _)
      (SeqAt.tuple_countAt a its.toArray n dd sls uy (fun u => PyData.eqv (SeqAt.readOf s.heap u) d)) ⟨ho, SeqAt.items_eqAt (vs := its.toArray) (show ReadsAll s.heap its.toArray.toList ds as from h4) r1 hxs (SeqAt.canLay_of_shaped sd) hroom, ?_⟩
    rw [countP_read h4 hxs]
    exact ⟨.int _, H, I.tok _, ⟨_, rfl⟩, q⟩
end DL
end

section
set_option Elab.async false
set_option linter.all false
set_option maxRecDepth 100000
set_option maxHeartbeats 4000000
set_option autoImplicit false
/-! defs of which it is known that no repr is under way around them -/
namespace DL
open PySem PySem.Spec PyProof.Rows L2

/-- as the hand layer's promise of a def, where g = true: asked only where no repr is under way -/
structure FnB (g : Bool) (P : Program) (w : World) (K : PySem.W.Frag) (mg : Str → Option Value) (base : Heap) (CX : CXT) (k : Nat) (f : Addr) (fd : FuncData) (ps : List Str) (sp : Sp) : Prop where
  len : ∀ vs H Q E, sp vs H Q E → vs.length = ps.length
  run : ∀ (A : Around) (outer : List PySem.Env) (s : Shared) (H : Hp) (args : Args) (us : List Value) (vs : List V) (Q : VK) (E : XK), Room k A → (g = true → A.guards = some []) → Env0 P w K mg base A outer s H → BindsTo s fd args (ps.zip us) → Vals vs us → sp vs H Q E →
    codeAny (model P w) A (.call (.ref f) args) (CR CX outer P w H s Q E) s
section
variable {g : Bool} {P : Program} {w : World} {K : PySem.W.Frag} {mg : Str → Option Value} {base : Heap} {CX : CXT} {j k : Nat} {f : Addr} {fd : FuncData} {ps : List Str} {sp : Sp}
theorem FnB.mono (F : FnB g P w K mg base CX j f fd ps sp) (h : j ≤ k) : FnB g P w K mg base CX k f fd ps sp := ⟨F.len, fun A outer s H args us vs Q E hr => F.run A outer s H args us vs Q E (hr.mono h)⟩
theorem FnB.ok (F : FnB false P w K mg base CX k f fd ps sp) : FnOk P w K mg base CX k f fd ps sp := ⟨F.len, fun A outer s H args us vs Q E hr => F.run A outer s H args us vs Q E hr (fun z => by cases z)⟩
theorem FnB.of (F : FnOk P w K mg base CX k f fd ps sp) : FnB g P w K mg base CX k f fd ps sp := ⟨F.len, fun A outer s H args us vs Q E hr _ => F.run A outer s H args us vs Q E hr⟩
theorem FnB.imp {sp' : Sp} (F : FnB g P w K mg base CX k f fd ps sp) (h : ∀ vs H Q E, sp' vs H Q E → sp vs H Q E) : FnB g P w K mg base CX k f fd ps sp' :=
  ⟨fun vs H Q E q => F.len vs H Q E (h _ _ _ _ q), fun A outer s H args us vs Q E hr hg e0 hb r q => F.run A outer s H args us vs Q E hr hg e0 hb r (h _ _ _ _ q)⟩
end
/-- a def, by its body -/
theorem fnB_of {g : Bool} {CX : CXT} {P : Program} {w : World} {K : PySem.W.Frag} {mg : Str → Option Value} {base : Heap} {k : Nat} {f : Addr} {x qual : Str} {params : Arguments} {body : List Stmt} {scope : Scope} {dvs : List V} {kws : List (Str × V)} {fd : FuncData}
    {N ps : List Str} {sp : Sp} (F : FunD K x qual params body scope dvs kws f fd) (S : FnScope N ps scope) (len : ∀ vs H Q E, sp vs H Q E → vs.length = ps.length)
    (hbody : ∀ (cdv : Value) (A : Around) (outer : List PySem.Env) (s : Shared) (H : Hp) (vs : List V) (Q : VK) (E : XK), Room k (A.deeper (envOfC qual scope s.heap.objs.size f cdv)) → (g = true → (A.deeper (envOfC qual scope s.heap.objs.size f cdv)).guards = some []) → sp vs H Q E →
      ∃ t, PSs (cxOf CX P w K mg base N qual scope f cdv A outer s H E) body t ∧ t { nx := fun _ H' => Q .non H', rt := Q } (L2.start N vs) H) : FnB g P w K mg base CX (k + 1) f fd ps sp := by
  obtain ⟨oc, od, dV, kV, doc, pm, an, cdv, ct, osl, rfl, lk, hcd, _, _⟩ := F.ex
  -- for one surrounding A: the hand layer's rule, its body's room cut to that A
  refine ⟨len, fun A outer s H args us vs Q E hr hgd e0 hb r hsp => ?_⟩
  have hl := len _ _ _ _ hsp
  have KX : K.In s.heap := e0.mod.kin.keeps fun b o e => (e0.bs b o e).1
  have lim : s.heap.NoLimit := e0.mod.nolimit.keeps fun b o e => (e0.bs b o e).1
  have hkind : ∀ y ∈ ps.zip us, scope.names.lookup y.1 = some .local ∨ (scope.names.lookup y.1 = some .cell ∧ ((cellsFrom (s.heap.objs.size + 1) scope.names []).lookup y.1).isSome = true) := fun ⟨n, v⟩ hy =>
    (S.par n (List.of_mem_zip hy).1).elim .inl fun q => .inr ⟨q, PySem.W.cellsFrom_some _ _ _ (.inl q)⟩
  refine codeAny_call_function hr.depth (KX _ _ lk) rfl S.co S.gen rfl (PySem.W.codeRec_of KX hcd) (hb _ _ _ _ (wpAny_newFunctionEnv_cells S.kind hkind fun env he s1 x => ?_))
  subst he
  refine ⟨lim.keeps x.toInCall.keep, codeAny_func ?_⟩
  obtain ⟨t, ht, hq⟩ := hbody cdv A outer s H vs Q E (hr.deeper _) hgd hsp
  have I : L2.Inv (cxOf CX P w K mg base N qual scope f cdv A outer s H E) [] (L2.start N vs) H s1 := inv_start S hr.hd e0 hl r x
  refine wpAny_mono (ht.run [] s1 (L2.start N vs) H _ I hq) (fun fl s' hs => ?_) fun e s' hs => hs
  cases fl with
  | ret u =>
    obtain ⟨v, σ', H', J, rv, q⟩ := hs
    exact ⟨v, H', J.os, J.bare, J.base, J.hok, rv, q⟩
  | next =>
    obtain ⟨σ', H', J, q⟩ := hs
    exact ⟨V.non, H', J.os, J.bare, J.base, J.hok, rfl, q⟩
  | brk =>
    obtain ⟨σ', H', _, q⟩ := hs
    exact q.elim
  | cont =>
    obtain ⟨σ', H', _, q⟩ := hs
    exact q.elim
/-- a def on data -/
theorem fn_b {g : Bool} {P : Program} {w : World} {K : PySem.W.Frag} {mg : Str → Option Value} {base : Heap} {x qual : Str} {params : Arguments} {body : List Stmt} {scope : Scope} {dvs : List V} {kws : List (Str × V)} {f : Addr} {fd : FuncData} {N ps : List Str} {k : Nat} {c : DSn}
    (F : FunD K x qual params body scope dvs kws f fd) (S : FnScope N ps scope)
    (hb : ∀ (cdv : Value) (A : Around) (outer : List PySem.Env) (s : Shared) (H : Hp) (E : XK), Room k (A.deeper (envOfC qual scope s.heap.objs.size f cdv)) → (g = true → (A.deeper (envOfC qual scope s.heap.objs.size f cdv)).guards = some []) →
      Go (cxOf (L2.CX P w) P w K mg base N qual scope f cdv A outer s H E) (wE E) → SSs (cxOf (L2.CX P w) P w K mg base N qual scope f cdv A outer s H E) (wE E) body c) :
    FnB g P w K mg base (L2.CX P w) (k + 1) f fd ps (spD K mg (runF ps.length N.length c)) := by
  refine fnB_of F S (fun vs H Q E h => ?_) fun cdv A outer s H vs Q E hr hgd h => ?_
  · obtain ⟨ι, ds, S, hS, hL, q⟩ := h
    unfold runF at q
    by_cases hz : ds.length = ps.length
    · rw [hL.length]; exact hz
    · rw [if_neg hz] at q
      exact q.elim
  · refine ⟨tDS K mg (wE E) c, hb cdv A outer s H E hr hgd ⟨rfl, S.nd, cx_hp, takes_of rfl rfl rfl rfl⟩, ?_⟩
    obtain ⟨ι, ds, S, hS, hL, q⟩ := h
    unfold runF at q
    by_cases hz : ds.length = ps.length
    · rw [if_pos hz] at q
      refine ⟨ι, entry N.length ds, S, hS, entry_rep hL, ?_⟩
      revert q
      cases c (entry N.length ds) S with
      | nx env S' => exact fun q ι' H' σ' x s e => q ι' H' .non x s .non
      | ret d S' => exact fun q => q
      | exn e env S' => exact fun q ι' H' σ' cls dd x s _ r => q ι' H' cls dd x s r
      | _ => exact fun q => q.elim
    · rw [if_neg hz] at q
      exact q.elim

/-! ### calls of such defs -/
section
variable {g : Bool} {X : Cx} {W : WX} {e o : Expr} {es : List Expr} {x : Str} {p pos apos : Pos} {cs : DAn} {ce : DEn} {k : Nat} {f : Addr} {fd : FuncData} {ps : List Str} {F : DFn} {sp : Sp}
theorem run_b {CX : CXT} {E : L2.St → XK} {pins : List (Addr × Obj)} {σ : L2.St} {H : Hp} {s : Shared} {Q : VK} {us : List Value} {kw : List (Str × Value)} {bs : List Value} {vs : List V} (F : FnB g X.prog X.w X.K X.mg X.base CX k f fd ps sp) (hr : Room k X.A) (hgd : g = true → X.A.guards = some []) (hb : BindsTo s fd ⟨us, kw⟩ (ps.zip bs)) (hx : PassesAt CX X σ (E σ))
    (I : L2.Inv X pins σ H s) (r : Vals vs bs) (h : sp vs H Q (E σ)) : wpAny (model X.prog X.w) X.A (call (.ref f) us kw) (EP X pins σ Q) X.xe s := by
  refine wpAny_call (codeAny_mono (F.run X.A X.stack s H ⟨us, kw⟩ bs vs Q (E σ) hr hgd I.env0 hb r h) fun r s' hq => ?_)
  cases r with
  | error e => exact hx pins H s e s' I hq
  | ok fl =>
    cases fl with
    | ret u => exact I.after hq
    | _ => exact False.elim hq
/-- f(e, ..) -/
theorem se_callb (gX : Go X W) (hF : FnB g X.prog X.w X.K X.mg X.base (L2.CX X.prog X.w) k f fd ps (spD X.K X.mg F)) (hr : Room k X.A) (hgd : g = true → X.A.guards = some []) (hm : X.mg x = some (.ref f)) (hk : PySem.W.keepIn X.K (.ref f) = true) (hb : L2.Binds X.K fd ps []) (ha : SA X W (e :: es) cs)
    (hg : Gl X x := by rfl) (hd : (x == ("__debug__" : Str)) = false := by decide) (hs : starEach (e :: es) X.env = (false, eval e X.env) :: starEach es X.env := by rfl) (hpl : (backTo pos (starEach es X.env)).any (·.1) = false := by rfl) :
    SE X W (.Call (.Name x p) (e :: es) [] pos) (cApp F cs) := by
  refine ⟨fun pins s σ H Q I h => ?_⟩
  obtain ⟨ι, env, S, hS, hE, q⟩ := h
  refine wpAny_Call_Name_kw (ld_glob I hg hm ?_ hd)
  refine PySem.W.callWith_K (h₀ := X.base) I.ok.mod.kin hk (thn (ha.run pos pins s σ H _ I (tDA.seq hS hE q fun ι1 H1 vs ds S1 _ x1 s1 e1 r1 q1 => (show spD X.K X.mg F vs H1 Q (L2.WE W σ) from ⟨ι1, ds, S1, s1, r1, q1⟩))) fun us s1 ⟨vs, H1, I1, r, q⟩ => ⟨I1.kIn, ?_⟩) hs hpl
  have hl : us.length = ps.length := by rw [← r.length]; exact hF.len _ _ _ _ q
  have hbb := hb s1 us I1.kIn (by rw [List.append_nil]; exact hl)
  rw [List.append_nil] at hbb
  exact run_b (E := L2.WE W) hF hr hgd hbb (passAt gX.tk σ) I1 r q
/-- f() -/
theorem se_callb0 (gX : Go X W) (hF : FnB g X.prog X.w X.K X.mg X.base (L2.CX X.prog X.w) k f fd ps (spD X.K X.mg F)) (hr : Room k X.A) (hgd : g = true → X.A.guards = some []) (hm : X.mg x = some (.ref f)) (hk : PySem.W.keepIn X.K (.ref f) = true) (hb : L2.Binds X.K fd ps [])
    (hg : Gl X x := by rfl) (hd : (x == ("__debug__" : Str)) = false := by decide) :
    SE X W (.Call (.Name x p) [] [] pos) (cApp F cNil) := by
  refine ⟨fun pins s σ H Q I h => ?_⟩
  obtain ⟨ι, env, S, hS, hE, q⟩ := h
  have q : spD X.K X.mg F [] H Q (L2.WE W σ) := ⟨ι, [], S, hS, .nil, q⟩
  refine wpAny_Call_Name_kw (ld_glob I hg hm ?_ hd)
  have hl : ([] : List Value).length = ps.length := hF.len _ _ _ _ q
  have hbb := hb s [] I.kIn (by rw [List.append_nil]; exact hl)
  rw [List.append_nil] at hbb
  exact PySem.W.callWith_K0 I.kIn hk (run_b (E := L2.WE W) hF hr hgd hbb (passAt gX.tk σ) I .nil q)
end

/-! ### the end (by HandS.EndTab, HandS.HeadWalk) -/
section
open LamX
theorem law_callB {P : Program} {w : World} {K : PySem.W.Frag} {mg mb : Str → Option Value} {CX : CXT} {k : Nat} {fa a : Addr} {cs : List (Addr × Addr)} {fd : FuncData} {x : Str} {sp : Sp} {s₁ : Shared} {vs : List Value} {ns : List Int}
    (KX : K.In s₁.heap) (hns : s₁.heap.Ns mainGlobals mg) (hb : s₁.heap.Ns builtinsNs mb) (hbb : ∀ x : Str, x ≠ "__name__" → mb x = bootBuiltins x) (hlim : s₁.heap.NoLimit) (hg : s₁.gens = #[])
    (hT : ∀ p ∈ cs, s₁.heap.get? p.2 = some { cls := .none, data := .fields #[] }) (nT : ∀ p ∈ cs, K.lookup p.2 = none) (C : ∀ p ∈ cs, PySem.W.CodeHd s₁.heap p.1 p.2)
    (hbm : ∃ (bm : Addr) (ob : Obj), mg "__builtins__" = some (.ref bm) ∧ bm ≠ builtinsNs ∧ s₁.heap.get? bm = some ob ∧ ob.cls = .type "module" ∧ ob.dict = some builtinsNs ∧ ob.data = .plain)
    (ha : s₁.heap.get? a = some { cls := .type "list", data := .seq vs.toArray }) (hi : IntsAre vs ns) (hl : ns.length ≤ sizeLine) (hr : Room k callerA)
    (F : ∀ base : Heap, K.In base → base.Ns mainGlobals mg → (∀ p ∈ cs, TabB base mg p.1 p.2) → FnB true P w K mg base CX k fa fd [x] sp) (hbind : ∀ (s : Shared) (u : Value), BindsTo s fd ⟨[u], []⟩ [(x, u)])
    (hsp : ∀ H : Hp, (∀ p ∈ cs, H p.2 = some (.tbl #[])) → SqL K H a (ns.map V.int) → sp [.ref a] H (fun v _ => v = .bl true) fun _ _ _ => False)
    (hCX : ∀ H e s', CX [] H s₁ (fun _ _ _ => False) e s' → False) :
    codeAny (model P w) callerA (.call (.ref fa) ⟨[.ref a], []⟩) (fun r s' => r = .ok (.ret (.bool true)) ∧ OldK s₁.heap s'.heap ∧ s'.os = s₁.os ∧ AllBare s'.gens) s₁ := by
  have rv := vals_ints hi
  have lenV := hi.length
  have isT : ∀ b : Addr, b ∈ cs.map (·.2) → s₁.heap.get? b = some { cls := .none, data := .fields #[] } := fun b hb => by
    obtain ⟨p, hp, e⟩ := List.mem_map.mp hb
    rw [← e]
    exact hT p hp
  have aT : a ∉ cs.map (·.2) := fun z => by
    have q := isT a z
    rw [ha] at q
    have z' : Data.seq vs.toArray _ = Data.fields #[] := congrArg Obj.data (Option.some.inj q)
    cases z'
  have memT : ∀ p ∈ cs, p.2 ∈ cs.map (·.2) := fun p hp => List.mem_map.mpr ⟨p, hp, rfl⟩
  -- from an abstract heap in which nothing but the script and the tables may be tracked
  have core : ∀ H : Hp, (∀ p ∈ cs, H p.2 = some (.tbl #[])) → (∀ b, H b = none ∨ b ∈ cs.map (·.2) ∨ ∃ o xs, H b = some (.frz o (.lst xs))) → SqL K H a (ns.map V.int) → HOk P w H s₁.heap → (∀ b, H b ≠ none → b = a ∨ b ∈ cs.map (·.2)) → (H a ≠ none → K.lookup a = none) →
      codeAny (model P w) callerA (.call (.ref fa) ⟨[.ref a], []⟩) (fun r s' => r = .ok (.ret (.bool true)) ∧ OldK s₁.heap s'.heap ∧ s'.os = s₁.os ∧ AllBare s'.gens) s₁ := by
    intro H hH hO hS hok hA hK
    have base_of : ∀ {b : Addr} {o : Obj}, s₁.heap.get? b = some o → H b = none → (hidT s₁.heap H).get? b = some o := fun e n => hidT_get e n
    have noD : ∀ {b : Addr} {o : Obj}, s₁.heap.get? b = some o → (∀ vs n, o.data ≠ .seq vs n) → o.data ≠ .fields #[] → H b = none := fun {b o} e h1 h2 => by
      cases q : H b with
      | none => rfl
      | some u =>
        rcases hA b (by rw [q]; simp) with e' | e'
        · rw [e', ha] at e
          cases e
          exact (h1 _ _ rfl).elim
        · rw [isT b e'] at e
          cases e
          exact (h2 rfl).elim
    have noA : ∀ {b : Addr} {o : Obj} {es : Array DictEntry} {ep : Nat}, s₁.heap.get? b = some o → o.data = .dict es ep → H b = none := fun {b o es ep} e d => by
      refine noD e (fun vs n z => ?_) fun z => ?_
      · rw [d] at z
        cases z
      · rw [d] at z
        cases z
    have nsK : ∀ {b : Addr} {m : Str → Option Value}, s₁.heap.Ns b m → (hidT s₁.heap H).Ns b m := fun {b m} ⟨o, es, ep, e, d, r⟩ => ⟨o, es, ep, base_of e (noA e d), d, r⟩
    have hKb : K.In (hidT s₁.heap H) := fun b o e => base_of (KX b o e) (by
      cases q : H b with
      | none => rfl
      | some u =>
        rcases hA b (by rw [q]; simp) with e' | e'
        · rw [e'] at e q
          rw [hK (by rw [q]; simp)] at e
          cases e
        · obtain ⟨p, hp, ep⟩ := List.mem_map.mp e'
          rw [← ep, nT p hp] at e
          cases e)
    have hM : L2.Mod K mg (hidT s₁.heap H) := ⟨hKb, nsK hns, ⟨mb, nsK hb, hbb⟩, let ⟨mc, h1, h2⟩ := hlim; ⟨mc, nsK h1, h2⟩⟩
    have TB : ∀ p ∈ cs, TabB (hidT s₁.heap H) mg p.1 p.2 := fun p hp => by
      have hTp := hT p hp
      refine ⟨?_, ?_, fun z => ?_⟩
      · obtain ⟨o, us, file, tf, flags, tg, inF, text, tt, e1, r1, r2, r3, r4, r5, r6, r7, r8, hne⟩ := C p hp
        refine ⟨o, us, file, tf, flags, tg, inF, text, tt, base_of e1 (noD e1 (fun vs n z => ?_) fun z => ?_), r1, r2, r3, r4, r5, r6, r7, r8, hne⟩
        · rw [r2] at z
          cases z
        · rw [r2] at z
          cases z
          simp at r3
      · obtain ⟨bm, ob, b1, b2, b3, b4, b5, b6⟩ := hbm
        have nG : bm ≠ mainGlobals := fun q => by
          obtain ⟨o, es, ep, e, hd, _⟩ := hns
          rw [q, e] at b3
          cases b3
          rw [hd] at b6
          cases b6
        have nP : bm ≠ p.2 := fun q => by
          rw [q, hTp] at b3
          cases b3
          cases b6
        refine ⟨bm, ob, b1, b2, nG, nP, base_of b3 (noD b3 (fun vs n z => ?_) fun z => ?_), b4, b5, b6⟩
        · rw [b6] at z
          cases z
        · rw [b6] at z
          cases z
      · obtain ⟨o, es, ep, e, hd, _⟩ := hns
        rw [z, hTp] at e
        cases e
        cases hd
    have e0 : Env0 P w K mg (hidT s₁.heap H) callerA [] s₁ H := ⟨rfl, hM, fun b o e => of_hidT e, Nat.le_of_eq (hidT_size _ _), trivial, fun b hb => absurd (show b ∈ ([] : List Addr) from hb) (by simp), hok, .of_eq hg⟩
    refine codeAny_mono ((F _ hKb (nsK hns) TB).run callerA [] s₁ H ⟨[.ref a], []⟩ [.ref a] [.ref a] _ _ hr (fun _ => rfl) e0 (hbind s₁ (.ref a)) (.cons rfl .nil) (hsp H hH hS)) fun r s' h => ?_
    cases r with
    | error e => exact (hCX H e s' h).elim
    | ok fl =>
      cases fl with
      | next => exact False.elim h
      | brk => exact False.elim h
      | cont => exact False.elim h
      | ret u =>
        obtain ⟨v, H', os, bare, un, hok', r', q⟩ := h
        have q' : v = .bl true := q
        subst q'
        obtain rfl : u = Value.bool true := r'
        have key : ∀ b o, b ∉ cs.map (·.2) → s₁.heap.get? b = some o → s'.heap.get? b = some o := fun b o nb e => by
          cases q : H b with
          | none => exact un.keep b o e q (by intro z; exact absurd (show b ∈ ([] : List Addr) from z) (by simp)) (by simp)
          | some u =>
            rcases hO b with z | z | ⟨ob, xs, z⟩
            · rw [q] at z; cases z
            · exact absurd z nb
            · have z2 := un.frzs b ob _ z
              obtain ⟨e1, _⟩ := hok b _ z
              obtain ⟨e2, _⟩ := hok' b _ z2
              rw [e] at e1; cases e1
              exact e2
        have grown : ∀ p ∈ cs, ∃ more : Array Value, s'.heap.get? p.2 = some { cls := .none, data := .fields more } := fun p hp => by
          obtain ⟨more, z⟩ := un.tbls p.2 #[] (hH p hp)
          exact ⟨_, hok' p.2 _ z⟩
        refine ⟨rfl, ⟨fun b o e => ?_, fun b o e => ?_⟩, os, bare⟩
        · by_cases hb : b ∈ cs.map (·.2)
          · obtain ⟨p, hp, ep⟩ := List.mem_map.mp hb
            obtain ⟨more, hm⟩ := grown p hp
            rw [← ep] at e ⊢
            rw [hT p hp] at e
            cases e
            exact .inr (.inl ⟨((C p hp).tab (hT p hp)).isCodeTable, rfl, #[], more, rfl, by rw [Array.empty_append]; exact hm⟩)
          · exact .inl (key b o hb e)
        · by_cases hb : b ∈ cs.map (·.2)
          · obtain ⟨p, hp, ep⟩ := List.mem_map.mp hb
            obtain ⟨more, hm⟩ := grown p hp
            rw [← ep]
            exact ⟨_, hm⟩
          · exact ⟨o, key b o hb e⟩
  cases hk : K.lookup a with
  | some o =>
    have e := KX a o hk
    rw [ha] at e
    cases e
    refine core (fun b => if b ∈ cs.map (·.2) then some (.tbl #[]) else none) (fun p hp => if_pos (memT p hp)) (fun b => ?_) (.inr ⟨_, vs.toArray, _, hk, rfl, rfl, rfl, by rw [List.size_toArray, lenV]; exact hl, by simpa using rv⟩) (fun b u z => ?_) (fun b z => ?_) fun z => absurd (show (if a ∈ cs.map (·.2) then some (HO.tbl #[]) else none) = none from if_neg aT) z
    · by_cases hb : b ∈ cs.map (·.2)
      · exact .inr (.inl hb)
      · exact .inl (if_neg hb)
    · by_cases hb : b ∈ cs.map (·.2)
      · have z' := (if_pos hb).symm.trans z
        cases z'
        exact isT b hb
      · have z' := (if_neg hb).symm.trans z
        cases z'
    · by_cases hb : b ∈ cs.map (·.2)
      · exact .inr hb
      · exact absurd (if_neg hb) z
  | none =>
    refine core (fun b => if b = a then some (.frz { cls := .type "list", data := .seq vs.toArray } (.lst (ns.map V.int))) else if b ∈ cs.map (·.2) then some (.tbl #[]) else none) (fun p hp => (if_neg (show ¬ p.2 = a from fun z => aT (by rw [← z]; exact memT p hp))).trans (if_pos (memT p hp))) (fun b => ?_)
      (.inl (.inr ⟨{ cls := .type "list", data := .seq vs.toArray }, if_pos rfl⟩)) (fun b u z => ?_) (fun b z => ?_) fun _ => hk
    · by_cases hb : b = a
      · exact .inr (.inr ⟨_, _, if_pos hb⟩)
      · by_cases hb2 : b ∈ cs.map (·.2)
        · exact .inr (.inl hb2)
        · exact .inl ((if_neg hb).trans (if_neg hb2))
    · by_cases hb : b = a
      · have z' := (if_pos hb).symm.trans z
        cases z'
        rw [hb]
        exact ⟨ha, by rw [List.length_map]; exact hl, vs, _, rv, ha⟩
      · have z1 := (if_neg hb).symm.trans z
        by_cases hb2 : b ∈ cs.map (·.2)
        · have z' := (if_pos hb2).symm.trans z1
          cases z'
          exact isT b hb2
        · have z' := (if_neg hb2).symm.trans z1
          cases z'
    · by_cases hb : b = a
      · exact .inl hb
      · by_cases hb2 : b ∈ cs.map (·.2)
        · exact .inr hb2
        · exact absurd ((if_neg hb).trans (if_neg hb2)) z

end
/-- what is known of the law's promise at the head's heap -/
def LawB (l : PySem.W.OpenLaw) (w : World) (K : PySem.W.Frag) (CX : CXT) (k n : Nat) (x : Str) (mg : Str → Option Value) (fa : Addr) (h : Heap) : Prop :=
  ∃ (fd : FuncData) (cs : List (Addr × Addr)) (sp : Sp), (∀ p ∈ cs, h.get? p.2 = some { cls := .none, data := .fields #[] }) ∧ (∀ p ∈ cs, K.lookup p.2 = none) ∧ (∀ p ∈ cs, PySem.W.CodeHd h p.1 p.2) ∧ (∀ (s : Shared) (u : Value), BindsTo s fd ⟨[u], []⟩ [(x, u)]) ∧
    (∀ (H : Hp) (a : Addr) (ns : List Int), ns.length ≤ n → (∀ z ∈ ns, Builtin.Int.intBits z ≤ 1048576) → (∀ p ∈ cs, H p.2 = some (.tbl #[])) → SqL K H a (ns.map V.int) → sp [.ref a] H (fun v _ => v = .bl true) fun _ _ _ => False) ∧
    ∀ base : Heap, K.In base → base.Ns mainGlobals mg → (∀ p ∈ cs, LamX.TabB base mg p.1 p.2) → FnB true l.prog w K mg base CX k fa fd [x] sp
theorem walk_b {l : PySem.W.OpenLaw} {n k : Nat} {q : Program} {loose : List Str} {XP : (Str → Option Value) → Heap → Prop} {YP : World → Heap → Prop} {d : DefRec} {CX : World → CXT} {x : Str}
    (hn : l.most = some n) (hn2 : n ≤ sizeLine) (hdf : d.params.defaults = []) (hr : Room k callerA)
    (F : ∀ (w : World) (mg : Str → Option Value) (fa : Addr) (h : Heap), YP w h → h.Ns mainGlobals mg → mg d.name = some (.ref fa) → ∃ K : PySem.W.Frag, K.In h ∧ LawB l w K (CX w) k n x mg fa h)
    (hCX : ∀ (w : World) (H : Hp) (s : Shared) (e : Value) (s' : Shared), CX w [] H s (fun _ _ _ => False) e s' → False) :
    PySem.W.WalkO q loose XP YP l.row.toRowW d [] (fun f vs => PySem.call f vs) := by
  refine Att.attach_callB hn hdf fun w s₀ s₁ mg mb fa o pm cd doc a vs ns G Y ho hd hcd hmg hobj hints hlen hbits hg => ?_
  obtain ⟨K, KX, fd, cs, sp, hT, nT, C, hb, hsp, hF⟩ := F w mg fa _ Y G.T.g hmg
  exact law_callB KX G.T.g G.T.b G.T.builtins G.T.nolimit hg hT nT C G.T.bmain hobj hints (Nat.le_trans hlen hn2) hr hF hb (fun H hH hS => hsp H a ns hlen hbits hH hS) fun H e s' => hCX w H s₁ e s'
end DL
end

section
set_option Elab.async false
set_option linter.all false
set_option maxRecDepth 100000
set_option maxHeartbeats 4000000
set_option autoImplicit false
namespace DL
open PySem PySem.Spec PyProof.Rows L2

/-! ### repr -/
def rRepr (K : PySem.W.Frag) : List V → Hp → VK → Prop := fun xs H Q => ∃ x d, xs = [x] ∧ Dp K H x d ∧ d.showable = true ∧ d.shown.length ≤ sizeLine ∧ SeqAt.shaped d = true ∧ Q (.str d.shown) H
def flatP : PyData → Bool
  | .list _ => false
  | .tuple _ => false
  | .dict _ => false
  | _ => true
def rReprF (K : PySem.W.Frag) : List V → Hp → VK → Prop := fun xs H Q => ∃ x d, xs = [x] ∧ Dp K H x d ∧ flatP d = true ∧ d.showable = true ∧ d.shown.length ≤ sizeLine ∧ SeqAt.shaped d = true ∧ Q (.str d.shown) H
theorem call_reprF {X : Cx} : CallR X (.builtin "repr") (rReprF X.K) := by
  intro pins s σ H xs us Q I r h
  obtain ⟨x, d, rfl, hd, hf, sh, hz, hs, q⟩ := h
  obtain ⟨u, rfl, ru⟩ := vals1 r
  obtain ⟨as, rd⟩ := Dp.reads I d x u hd ru
  have fin : ∀ (u : Tok) (tk : Nat), EP X pins σ Q (.str d.shown u) { s with toks := tk } := fun u tk => ⟨.str d.shown, H, I.tok tk, ⟨u, rfl⟩, q⟩
  cases rd with
  | none =>
    simp only [PyData.shown] at fin
    exact PySem.P.repr_of_none (fin _ _)
  | bool b =>
    simp only [PyData.shown] at fin
    exact PySem.P.repr_of_bool (by cases b <;> exact fin _ _)
  | int i t =>
    simp only [PyData.shown] at fin
    exact PySem.P.repr_of_int (by simpa [PyData.showable] using sh) (fin _ _)
  | str z t =>
    simp only [PyData.shown] at fin hz
    exact PySem.P.repr_of_str (fin _ _) hz
  | _ => cases hf
theorem call_reprD {X : Cx} (hg : X.A.guards = some []) (hu : X.A.units + 66 < cLine) : CallR X (.builtin "repr") (rRepr X.K) := by
  intro pins s σ H xs us Q I r h
  obtain ⟨x, d, rfl, hd, sh, hz, hs, q⟩ := h
  by_cases hf : flatP d = true
  · exact call_reprF pins s σ H [x] us Q I r ⟨x, d, rfl, hd, hf, sh, hz, hs, q⟩
  · obtain ⟨u, rfl, ru⟩ := vals1 r
    obtain ⟨as, rd⟩ := Dp.reads I d x u hd ru
    have hnd : d.hasDict = false := PyData.hasDict_of_canLay d (SeqAt.canLay_of_shaped hs)
    have hdp := SeqAt.depth_of_shaped hs
    have hsm : d.hasDict = true → sysModules ∉ as := fun z => by rw [hnd] at z; cases z
    have fin : ∀ (h' : Heap) (u : Tok) (tk : Nat), (∀ b o, s.heap.get? b = some o → h'.get? b = some o) → EP X pins σ Q (.str d.shown u) { s with heap := h', toks := tk } := fun h' u tk k => ⟨.str d.shown, H, I.kept k, ⟨u, rfl⟩, q⟩
    have hr : ∃ a, u = .ref a := by
      cases rd <;> first | exact ⟨_, rfl⟩ | exact absurd rfl hf
    obtain ⟨a, rfl⟩ := hr
    exact repr_of_reads' rd sh hsm hg (by omega) (fun _ _ e => e) (fun h' u tk k => fin h' u tk k) hz
def fRepr : DFn := fun xs S => match xs with
  | [x] => (match pyS S x with
    | some d => if d.showable = true ∧ d.shown.length ≤ LIM ∧ SeqAt.shaped d = true then .ok (.str d.shown) S else .bad
    | none => .bad)
  | _ => .bad
def fReprF : DFn := fun xs S => match xs with
  | [x] => (match pyS S x with
    | some d => if flatP d = true ∧ d.showable = true ∧ d.shown.length ≤ LIM ∧ SeqAt.shaped d = true then .ok (.str d.shown) S else .bad
    | none => .bad)
  | _ => .bad
section
variable {X : Cx}
theorem p_repr : PN X.K X.mg (rRepr X.K) fRepr := by
  intro ι H S xs vs We Q hS rx q
  unfold fRepr at q
  split at q
  · rename_i x
    obtain ⟨v, rfl, r⟩ := rx.one
    cases e : pyS S x with
    | none => rw [e] at q; exact q.elim
    | some d =>
      rw [e] at q
      simp only at q
      split at q
      · rename_i h
        exact ⟨v, d, rfl, hS.dp x v d r e, h.1, h.2.1, h.2.2, Aft.done q hS (.str _)⟩
      · exact q.elim
  · exact q.elim
theorem p_reprF : PN X.K X.mg (rReprF X.K) fReprF := by
  intro ι H S xs vs We Q hS rx q
  unfold fReprF at q
  split at q
  · rename_i x
    obtain ⟨v, rfl, r⟩ := rx.one
    cases e : pyS S x with
    | none => rw [e] at q; exact q.elim
    | some d =>
      rw [e] at q
      simp only at q
      split at q
      · rename_i h
        exact ⟨v, d, rfl, hS.dp x v d r e, h.1, h.2.1, h.2.2.1, h.2.2.2, Aft.done q hS (.str _)⟩
      · exact q.elim
  · exact q.elim
end

/-! ### isinstance with a built-in type -/
def tyName (S : Sto) : D → Option String
  | .non => some "NoneType"
  | .bl _ => some "bool"
  | .int _ => some "int"
  | .str _ => some "str"
  | .tup _ => some "tuple"
  | .ntu _ => some "tuple"
  | d => if (listOf S d).isSome = true then some "list" else none
/-- kt: what is answered of own classes' things -/
def fIsi : DFn := fun xs S => match xs with
  | [x, .ty n] => (match tyName S x with
    | some t => (match kitB t n with
      | some b => .ok (.bl b) S
      | none => .bad)
    | none => .bad)
  | _ => .bad
theorem tyName_of {K : PySem.W.Frag} {mg : Str → Option Value} {ι : Nm} {H : Hp} {S : Sto} {d : D} {v : V} {t : String} (hS : SimS K mg ι H S) (r : RepV K mg ι H v d) (h : tyName S d = some t) : TyX K H v (.type t) := by
  have lst : ∀ {a : Addr} {vs : List V}, SqL K H a vs → TyX K H (.ref a) (.type "list") := fun {a vs} hq => by
    rcases hq with (q | ⟨o, q⟩) | ⟨o, its, n, q1, q2, _⟩
    · exact .base (.lst q)
    · exact .base (.frz q)
    · exact .kList q1 q2
  have tp : ∀ {a : Addr} {vs : List V}, SqT K H a vs → TyX K H (.ref a) (.type "tuple") := fun {a vs} hq => by
    rcases hq with (q | ⟨o, q⟩) | ⟨o, its, n, q1, q2, _⟩
    · exact .base (.tup q)
    · exact .fTuple q
    · exact .kTuple q1 q2
  have li : (listOf S d).isSome = true → tyName S d = some "list" → TyX K H v (.type t) := fun hl e => by
    rw [e] at h
    cases h
    cases z : listOf S d with
    | none => rw [z] at hl; cases hl
    | some ds =>
      obtain ⟨a, vs, rfl, hq, _⟩ := hS.list r z
      exact lst hq
  cases d with
  | non => cases h; cases r; exact .base .non
  | bl b => cases h; cases r; exact .base (.bl b)
  | int i => cases h; cases r; exact .base (.int i)
  | str x => cases h; cases r; exact .base (.str x)
  | tup ds =>
    cases h
    obtain ⟨a, vs, rfl, hq, _⟩ := r.sqT
    exact tp hq
  | ntu ds =>
    cases h
    obtain ⟨a, vs, rfl, hq, _⟩ := hS.seq (ds := ds) r rfl
    cases r with
    | ntu z r n l => exact tp (.inl (.inr ⟨_, r⟩))
  | lst ds => exact li rfl rfl
  | kls ds => exact li rfl rfl
  | cel n =>
    by_cases hl : (listOf S (.cel n)).isSome = true
    · exact li hl (if_pos hl)
    · rw [show tyName S (.cel n) = none from if_neg hl] at h
      cases h
  | _ => cases h
section
variable {X : Cx}
theorem p_isi : PN X.K X.mg (rIsi X.K) fIsi := by
  intro ι H S xs vs We Q hS rx q
  unfold fIsi at q
  split at q
  · rename_i x n
    obtain ⟨v, u, rfl, r1, r2⟩ := rx.two
    cases r2
    cases e : tyName S x with
    | none => rw [e] at q; exact q.elim
    | some t =>
      rw [e] at q
      simp only at q
      cases e2 : kitB t n with
      | none => rw [e2] at q; exact q.elim
      | some b =>
        rw [e2] at q
        exact ⟨v, .ty n, .type t, .type n, b, rfl, .ty n, tyName_of hS r1 e, kit_ty e2, Aft.done q hS (.bl b)⟩
  · exact q.elim
end

/-! ### xs[::-1], xs a list -/
def cRev (c : DEn) : DAn := fun env S => (c env S).bind fun x S1 => match listOf S1 x with
  | some ds => .ok ds.reverse S1
  | none => .bad
theorem sf_rev {X : Cx} {W : WX} {e : Expr} {ce : DEn} {k : Nat} {p1 p2 p3 pos : Pos} (he : SE X W e ce) : SF X W (.Subscript e (.Slice none none (some (.UnaryOp .USub (.Constant (.int 1) k p1) p2)) p3) pos) (cRev ce) := PE.weak (pe_revL he) fun σ H Q h => by
  obtain ⟨ι, env, S, hS, hE, q⟩ := h
  refine tD.seqF hS hE q fun ι1 H1 v d S1 _ x1 s1 e1 r1 q1 => ?_
  cases e : listOf S1 d with
  | none => rw [e] at q1; exact q1.elim
  | some ds =>
    rw [e] at q1
    obtain ⟨a, vs, rfl, hq, l⟩ := s1.list r1 e
    exact ⟨a, vs, rfl, hq, q1.lay s1 l.reverse⟩

/-! ### count -/
/-- a method's call by what is known of the receiver's type -/
theorem pe_bmT {X : Cx} {o e : Expr} {es : List Expr} {to : TE} {t : TA} {name : Str} {apos cpos : Pos} {T id : String} {r : V → List V → Hp → VK → Prop} {ty : V → Hp → Prop}
    (pa : PlainAttrs T) (slot : Slot T name id) (hty : typeOf (.builtin id) = pure (.type "method_descriptor")) (hm : MtR X id r) (ho : PE X o to) (ha : PA X (e :: es) t)
    (hT : ∀ (pins : List (Addr × Obj)) (σ : L2.St) (H : Hp) (s : Shared) (x : V) (v : Value), L2.Inv X pins σ H s → RelV x v → ty x H → s.TypeIs v T ∧ ∀ a, v = .ref a → ∃ ob, s.heap.get? a = some ob ∧ ob.dict = none)
    (hbase : attributeBase o name X.env (eval o X.env) = eval o X.env := by rfl)
    (hfew : ((backTo cpos (starEach (e :: es) X.env)).all (fun x => !x.1) && (backToKw cpos (keywordEach [] X.env)).all (fun x => x.1.isSome)
      && decide ((e :: es).length + ([] : List Keyword).length + (if ([] : List Keyword).isEmpty then 0 else 1) < 30)) = true := by rfl)
    (hline : (apos.endLine == cpos.line) = true := by rfl) (hs : starEach (e :: es) X.env = (false, eval e X.env) :: starEach es X.env := by rfl) (hplain : (backTo cpos (starEach es X.env)).any (·.1) = false := by rfl) :
    PE X (.Call (.Attribute o name apos) (e :: es) [] cpos) (fun σ H Q => to σ H fun x H1 => ty x H1 ∧ t σ H1 fun xs H2 => r x xs H2 Q) := by
  refine ⟨fun pins s σ H Q I h => ?_⟩
  refine wpAny_Call_method_late hbase hfew hline rfl (thn (ho.run pins s σ H _ I h) fun v s1 ⟨x, H1, I1, r1, ty, q1⟩ => ?_)
  obtain ⟨h1, h2⟩ := hT pins σ H1 s1 x v I1 r1 ty
  refine ⟨T, id, pa, slot, hty, h1, h2, ?_⟩
  have hA := ha.run cpos pins s1 σ H1 _ I1 q1
  rw [hs] at hA ⊢
  refine Calls.callWith_builtin (by show (false || (backTo cpos (starEach es X.env)).any (·.1)) = false; rw [hplain] <;> rfl) (Calls.evalArgs_plain ?_)
  exact thn hA fun us s2 ⟨vs, H2, I2, r2, q2⟩ => hm pins s2 σ H2 x vs v us Q I2 r1 r2 q2
def tyN (x : V) (H : Hp) : Prop := ∃ a o vs, x = .ref a ∧ H a = some (.frz o (.tup vs)) ∧ o.dict = none
theorem tyN_is {X : Cx} (pins : List (Addr × Obj)) (σ : L2.St) (H : Hp) (s : Shared) (x : V) (v : Value) (I : L2.Inv X pins σ H s) (rx : RelV x v) (h : tyN x H) : s.TypeIs v "tuple" ∧ ∀ a, v = .ref a → ∃ ob, s.heap.get? a = some ob ∧ ob.dict = none := by
  obtain ⟨a, o, vs, rfl, hH, hd⟩ := h
  cases rx
  obtain ⟨e, _, its, _, o2, e2, c2, _⟩ := I.hok a _ hH
  rw [e] at e2
  cases e2
  refine ⟨⟨o, e, c2⟩, fun b z => ?_⟩
  cases z
  exact ⟨o, e, hd⟩
def cntD (S : Sto) (x y : D) : Option Nat := (seqOf S x).bind fun ds => (pyS S y).bind fun p => (pySL S ds).bind fun ps => if SeqAt.shaped p = true ∧ SeqAt.shaped (.list ps) = true then some (ps.countP fun q => PyData.eqv q p) else none
/-- o.count(e), o a list or such a tuple -/
def cCount (o e : DEn) : DEn := fun env S => (o env S).bind fun x S1 => match x with
  | .ntu ds => (e env S1).bind fun y S2 => (match cntD S2 (.ntu ds) y with
    | some n => .ok (.int n) S2
    | none => .bad)
  | x => if (listOf S1 x).isSome = true then (e env S1).bind fun y S2 => (if (listOf S2 x).isSome = true then (match cntD S2 x y with
    | some n => .ok (.int n) S2
    | none => .bad) else .bad) else .bad
theorem cntD_some {S : Sto} {x y : D} {n : Nat} (h : cntD S x y = some n) : ∃ ds p ps, seqOf S x = some ds ∧ pyS S y = some p ∧ pySL S ds = some ps ∧ SeqAt.shaped p = true ∧ SeqAt.shaped (.list ps) = true ∧ (ps.countP fun q => PyData.eqv q p) = n := by
  unfold cntD at h
  cases e : seqOf S x with
  | none => rw [e] at h; cases h
  | some ds =>
    cases e1 : pyS S y with
    | none => rw [e, e1] at h; cases h
    | some p =>
      cases e2 : pySL S ds with
      | none => rw [e, e1] at h; simp only [Option.bind_some, e2] at h; cases h
      | some ps =>
        rw [e, e1] at h
        simp only [Option.bind_some, e2] at h
        split at h
        · rename_i z
          cases h
          exact ⟨ds, p, ps, rfl, rfl, e2, z.1, z.2, rfl⟩
        · cases h
section
variable {X : Cx} {W : WX} {o e : Expr} {apos cpos : Pos} {co ce : DEn}
theorem sa_one (h : SE X W e ce) (hs : starEach [e] X.env = (false, eval e X.env) :: starEach [] X.env := by rfl) : SA X W [e] (cCons ce cNil) := sa_cons h sa_nil hs
theorem se_count (hu : X.A.units + 65 < cLine) (ho : SE X W o co) (he : SE X W e ce)
    (hbase : attributeBase o (Str.ofString "count") X.env (eval o X.env) = eval o X.env := by rfl)
    (hfew : ((backTo cpos (starEach [e] X.env)).all (fun x => !x.1) && (backToKw cpos (keywordEach [] X.env)).all (fun x => x.1.isSome)
      && decide ([e].length + ([] : List Keyword).length + (if ([] : List Keyword).isEmpty then 0 else 1) < 30)) = true := by rfl)
    (hline : (apos.endLine == cpos.line) = true := by rfl) (hs : starEach [e] X.env = (false, eval e X.env) :: starEach [] X.env := by rfl) (hplain : (backTo cpos (starEach [] X.env)).any (·.1) = false := by rfl) :
    SE X W (.Call (.Attribute o (Str.ofString "count") apos) [e] [] cpos) (cCount co ce) :=
  PE.weak (PE.or (pe_bm PySem.F.plainAttrs_list PySem.F.slot_list_count PySem.F.type_list_count (mt_countD hu) ho (sa_one he hs) hbase hfew hline hs hplain)
    (pe_bmT PySem.F.plainAttrs_tuple PySem.F.slot_tuple_count PySem.F.type_tuple_count (mt_countT hu) ho (sa_one he hs) tyN_is hbase hfew hline hs hplain)) fun σ H Q h => by
  obtain ⟨ι, env, S, hS, hE, q⟩ := h
  by_cases z : ∃ ds S1, co env S = .ok (.ntu ds) S1
  · obtain ⟨ds, S1, z⟩ := z
    refine .inr (tD.seq hS hE q fun ι1 H1 v d S2 e x s e1 r q => ?_)
    rw [z] at e
    cases e
    have q : Aft X.K X.mg (RepV X.K X.mg) (fun cls dd H' => W cls dd σ H') ι1 H1 ((ce env S1).bind fun y S2 => (match cntD S2 (.ntu ds) y with
      | some n => .ok (.int n) S2
      | none => .bad)) Q := q
    cases r with
    | @ntu a o vs _ hd r n l =>
      refine ⟨⟨a, o, vs, rfl, r, hd⟩, ?_⟩
      have rr : RepV X.K X.mg ι1 H1 (.ref a) (.ntu ds) := .ntu hd r n l
      have qq : Aft X.K X.mg (RepV X.K X.mg) (fun cls dd H' => W cls dd σ H') ι1 H1 ((cCons ce cNil env S1).bind fun ys S2 => match ys with
        | [y] => (match cntD S2 (.ntu ds) y with
          | some n => .ok (.int n) S2
          | none => .bad)
        | _ => .bad) Q := by
        show Aft _ _ _ _ _ _ (((ce env S1).bind fun d S1 => (Res.ok [] S1).bind fun ds S2 => .ok (d :: ds) S2).bind _) Q
        cases ez : ce env S1 with
        | ok y S3 => rw [ez] at q; exact q
        | exn x S3 => rw [ez] at q; exact q
        | bad => rw [ez] at q; exact q
      refine tDA.seq s e1 qq fun ι2 H2 us ys S2 _ x2 s2 e2 r2 q2 => ?_
      match ys, r2, q2 with
      | [y], .cons (v := u) ry .nil, q2 =>
        have q2 : Aft X.K X.mg (RepV X.K X.mg) (fun cls dd H' => W cls dd σ H') ι2 H2 (match cntD S2 (.ntu ds) y with
          | some n => .ok (.int n) S2
          | none => .bad) Q := q2
        cases ec : cntD S2 (.ntu ds) y with
        | none => rw [ec] at q2; exact q2.elim
        | some n =>
          rw [ec] at q2
          obtain ⟨ds', p, ps, a1, a2, a3, a4, a5, rfl⟩ := cntD_some ec
          cases a1
          have dl := s2.dpL ds vs ps (l.ext x2) a3
          refine ⟨a, u, p, ps, rfl, rfl, .tup (.inl (.inr ⟨o, ?_⟩)) dl, s2.dp y u p ry a2, a5, a4, Aft.done q2 s2 (.int _)⟩
          exact (x2.keep _ _ r (fun ps z => by cases z) n.1).1
      | [], _, q2 => exact q2.elim
      | _ :: _ :: _, _, q2 => exact q2.elim
  · refine .inl (tD.seq hS hE q fun ι1 H1 v d S2 e x s e1 r q => ?_)
    have q : Aft X.K X.mg (RepV X.K X.mg) (fun cls dd H' => W cls dd σ H') ι1 H1 (if (listOf S2 d).isSome = true then (ce env S2).bind fun y S3 => (if (listOf S3 d).isSome = true then (match cntD S3 d y with
      | some n => .ok (.int n) S3
      | none => .bad) else .bad) else .bad) Q := by
      cases d with
      | ntu ds => exact absurd ⟨ds, S2, e⟩ z
      | _ => exact q
    split at q
    · rename_i hl
      refine ⟨tyL s r hl, ?_⟩
      have qq : Aft X.K X.mg (RepV X.K X.mg) (fun cls dd H' => W cls dd σ H') ι1 H1 ((cCons ce cNil env S2).bind fun ys S3 => match ys with
        | [y] => (if (listOf S3 d).isSome = true then (match cntD S3 d y with
          | some n => .ok (.int n) S3
          | none => .bad) else .bad)
        | _ => .bad) Q := by
        show Aft _ _ _ _ _ _ (((ce env S2).bind fun d S1 => (Res.ok [] S1).bind fun ds S2 => .ok (d :: ds) S2).bind _) Q
        cases ez : ce env S2 with
        | ok y S3 => rw [ez] at q; exact q
        | exn x S3 => rw [ez] at q; exact q
        | bad => rw [ez] at q; exact q
      refine tDA.seq s e1 qq fun ι2 H2 us ys S3 _ x2 s2 e2 r2 q2 => ?_
      match ys, r2, q2 with
      | [y], .cons (v := u) ry .nil, q2 =>
        have q2 : Aft X.K X.mg (RepV X.K X.mg) (fun cls dd H' => W cls dd σ H') ι2 H2 (if (listOf S3 d).isSome = true then (match cntD S3 d y with
          | some n => .ok (.int n) S3
          | none => .bad) else .bad) Q := q2
        split at q2
        · rename_i hl3
          cases ec : cntD S3 d y with
          | none => rw [ec] at q2; exact q2.elim
          | some n =>
            rw [ec] at q2
            obtain ⟨ds', p, ps, a1, a2, a3, a4, a5, rfl⟩ := cntD_some ec
            cases el : listOf S3 d with
            | none => rw [el] at hl3; cases hl3
            | some es =>
              obtain ⟨a, vs, rfl, hq, l⟩ := s2.list (r.ext x2) el
              have e3 : seqOf S3 d = some es := by
                cases d with
                | ntu ds => exact absurd ⟨ds, S2, e⟩ z
                | tup ds => cases el
                | _ => exact el
              rw [e3] at a1
              cases a1
              exact ⟨a, u, p, ps, rfl, rfl, .lst hq (s2.dpL _ vs ps l a3), s2.dp y u p ry a2, a5, a4, Aft.done q2 s2 (.int _)⟩
        · exact q2.elim
      | [], _, q2 => exact q2.elim
      | _ :: _ :: _, _, q2 => exact q2.elim
    · exact q.elim
end
end DL
end

section
set_option Elab.async false
set_option linter.all false
set_option maxRecDepth 100000
set_option maxHeartbeats 4000000
set_option autoImplicit false
/-! tuples of which it is known that they have no dict; calls with keywords -/
namespace DL
open PySem PySem.Spec PyProof.Rows L2
def tTupN (t : TA) : TE := fun σ H Q => t σ H fun xs H1 => xs.length ≤ sizeLine ∧ ∀ p o, H1 p = none → o.dict = none → Q (.ref p) (upd H1 p (.frz o (.tup xs)))
theorem pe_tupN {X : Cx} {es : List Expr} {t : TA} {pos : Pos} {x1} (h : PA X es t) : PE X (.Tuple es x1 pos) (tTupN t) := by
  refine ⟨fun pins s σ H Q I hq => ?_⟩
  refine wpAny_Tuple_spliced (thn (h.run pos pins s σ H _ I hq) fun us s1 ⟨xs, H1, I1, r, z, q⟩ => ⟨by rw [← r.length]; exact z, ?_⟩)
  have hf : H1 s1.heap.objs.size = none := I1.hok.fresh (Nat.le_refl _)
  refine ⟨.ref s1.heap.objs.size, upd H1 s1.heap.objs.size (.frz { cls := .type "tuple", data := .seq us.toArray } (.tup xs)), I1.laid (t' := s1.toks) (fun b u e => Heap.get?_push_of_some _ e) (Nat.le_refl _) ?_, rfl, q _ _ hf rfl⟩
  exact ⟨Heap.get?_push_size _ rfl, z, us, r, ⟨_, Heap.get?_push_size _ rfl, rfl, _, rfl⟩⟩
def rCatN (K : PySem.W.Frag) : R2 := fun x y H Q => ∃ a b xs ys, x = .ref a ∧ y = .ref b ∧ SqT K H a xs ∧ SqT K H b ys ∧ xs.length + ys.length ≤ sizeLine ∧
  (xs = [] → Q (.ref b) H) ∧ (xs ≠ [] → ys = [] → Q (.ref a) H) ∧ (xs ≠ [] → ys ≠ [] → ∀ p o, H p = none → o.dict = none → Q (.ref p) (upd H p (.frz o (.tup (xs ++ ys)))))
theorem op_catN {X : Cx} : OpR X (binaryOp .Add) (rCatN X.K) := by
  intro pins s σ H x y v u Q I rx ry h
  obtain ⟨a, b, xs, ys, rfl, rfl, ha, hb, hz, q0, q1, q2⟩ := h
  cases rx
  cases ry
  obtain ⟨its, r1, p1, _⟩ := I.tuple ha
  obtain ⟨its2, r2, p2, _⟩ := I.tuple hb
  by_cases hx : xs = []
  · subst hx
    cases r1
    exact cat_tup0 p1 p2 ⟨.ref b, H, I, rfl, q0 rfl⟩
  · refine HT.cat_tup p1 p2 (fun z => hx (r1.nil_iff.mp z)) (fun z => ⟨.ref a, H, I, rfl, q1 hx (r2.nil_iff.mp z)⟩) (fun z => ?_) (by rw [← r1.length, ← r2.length]; exact hz)
    refine ⟨.ref s.heap.objs.size, _, I.laid (t' := s.toks) (o := .frz { cls := .type "tuple", data := .seq (its ++ its2).toArray } (.tup (xs ++ ys))) (fun b ob q => Heap.get?_push_of_some _ q) (Nat.le_refl _) ?_, rfl, q2 hx (fun w => z (r2.nil_iff.mpr w)) _ _ (I.hok.fresh (Nat.le_refl _)) rfl⟩
    exact ⟨Heap.get?_push_size _ rfl, by rw [List.length_append]; exact hz, _, r1.append r2, IsTup.new _ _⟩
def cTupN (a : DAn) : DEn := fun env S => (a env S).bind fun ds S1 => if ds.length ≤ LIM then .ok (.ntu ds) S1 else .bad
def oAddN (x y : D) (S : Sto) : Res D := match x, y with
  | .ntu xs, .ntu ys => if xs.length + ys.length ≤ LIM then .ok (.ntu (xs ++ ys)) S else .bad
  | _, _ => .bad
section
variable {K : PySem.W.Frag} {mg : Str → Option Value} {ι : Nm} {H : Hp} {S : Sto} {We : WE}
theorem Aft.layN {ds : List D} {vs : List V} {Q : VK} (h : Aft K mg (RepV K mg) We ι H (.ok (.ntu ds) S) Q) (hS : SimS K mg ι H S) (l : RepL K mg ι H vs ds) : ∀ p o, H p = none → o.dict = none → Q (.ref p) (upd H p (.frz o (.tup vs))) :=
  fun p o hp hd => h ι _ _ (Ext.new hp) (hS.new hp) (.ntu hd upd_same (hS.fresh hp) (l.ext (Ext.new hp)))
end
section
variable {X : Cx} {W : WX} {es : List Expr} {pos : Pos} {cs : DAn}
theorem se_tupN {x1} (h : SA X W es cs) : SE X W (.Tuple es x1 pos) (cTupN cs) := PE.weak (pe_tupN h) fun σ H Q h => by
  obtain ⟨ι, env, S, hS, hE, q⟩ := h
  refine tDA.seq hS hE q fun ι1 H1 vs ds S1 _ x1 s1 e1 r1 q1 => ?_
  split at q1
  · rename_i hl
    exact ⟨by rw [lim_eq, r1.length]; exact hl, q1.layN s1 r1⟩
  · exact q1.elim
theorem p_addN : P2 X.K X.mg (rCatN X.K) oAddN := by
  intro ι H S x y v u We Q hS rx ry q
  unfold oAddN at q
  split at q
  · rename_i xs ys
    split at q
    · rename_i hl
      cases rx with
      | ntu h1 h2 h3 l1 =>
        cases ry with
        | ntu k1 k2 k3 l2 =>
          rename_i a o1 vs b o2 us
          refine ⟨_, _, vs, us, rfl, rfl, .inl (.inr ⟨_, h2⟩), .inl (.inr ⟨_, k2⟩), by rw [lim_eq, l1.length, l2.length]; exact hl, fun z => ?_, fun z1 z2 => ?_, fun _ _ => q.layN hS (l1.append l2)⟩
          · subst z
            cases l1
            exact Aft.done q hS (.ntu k1 k2 k3 l2)
          · subst z2
            cases l2
            rw [List.append_nil] at q
            exact Aft.done q hS (.ntu h1 h2 h3 l1)
    · exact q.elim
  · exact q.elim
end

/-! ### f(.., k = v) -/
section
variable {X : Cx} {W : WX} {kws : List Keyword} {e : Expr} {es : List Expr} {c : DEn} {r : DAn} {kpos : Pos} {nm : Option Str}
abbrev SK (X : Cx) (W : WX) (kws : List Keyword) (c : DAn) : Prop := PK X kws (tDA X.K X.mg W c)
theorem PK.weak {t t' : TA} (h : PK X kws t) (k : ∀ σ H Q, t' σ H Q → t σ H Q) : PK X kws t' := ⟨fun pos pins s σ H Q I q => h.run pos pins s σ H Q I (k _ _ _ q)⟩
theorem sk_nil : SK X W [] cNil := PK.weak pk_nil fun σ H Q h => by
  obtain ⟨ι, env, S, hS, hE, q⟩ := h
  exact Aft.done q hS .nil
theorem sk_cons (ha : SE X W e c) (hr : SK X W kws r) : SK X W (⟨nm, e, kpos⟩ :: kws) (cCons c r) := PK.weak (pk_cons ha hr) fun σ H Q h => by
  obtain ⟨ι, env, S, hS, hE, q⟩ := h
  refine tD.seq hS hE q fun ι1 H1 v d S1 _ x1 s1 e1 r1 q1 => ?_
  exact tDA.seq s1 e1 q1 fun ι2 H2 vs ds S2 _ x2 s2 e2 r2 q2 => Aft.done q2 s2 (.cons (r1.ext x2) r2)
/-- the arguments in the parameters' order: perm tells for each parameter its place among the positional ones followed by the keywords' -/
def arr {α : Type} (perm : List Nat) (xs : List α) : List α := perm.filterMap fun i => xs[i]?
def cArr (perm : List Nat) (a b : DAn) : DAn := fun env S => (a env S).bind fun xs S1 => (b env S1).bind fun ys S2 => .ok (arr perm (xs ++ ys)) S2
theorem arr_rep {K : PySem.W.Frag} {mg : Str → Option Value} {ι : Nm} {H : Hp} {vs : List V} {ds : List D} (l : RepL K mg ι H vs ds) : ∀ perm : List Nat, RepL K mg ι H (arr perm vs) (arr perm ds)
  | [] => .nil
  | i :: perm => by
    unfold arr
    rw [List.filterMap_cons, List.filterMap_cons]
    cases e : ds[i]? with
    | none =>
      have e2 : vs[i]? = none := by
        rw [List.getElem?_eq_none_iff] at e ⊢
        rw [l.length]
        exact e
      rw [e2]
      exact arr_rep l perm
    | some d =>
      obtain ⟨v, h1, h2⟩ := l.get e
      rw [h1]
      exact .cons h2 (arr_rep l perm)
theorem arr_vals {vs : List V} {us : List Value} (l : Vals vs us) : ∀ perm : List Nat, Vals (arr perm vs) (arr perm us)
  | [] => .nil
  | i :: perm => by
    unfold arr
    rw [List.filterMap_cons, List.filterMap_cons]
    cases e : vs[i]? with
    | none =>
      have e2 : us[i]? = none := by
        rw [List.getElem?_eq_none_iff] at e ⊢
        rw [← l.length]
        exact e
      rw [e2]
      exact arr_vals l perm
    | some v =>
      obtain ⟨u, h1, h2⟩ := l.get e
      rw [h1]
      exact .cons h2 (arr_vals l perm)
/-- how such a call binds -/
def KwB (K : PySem.W.Frag) (fd : FuncData) (ps ks : List Str) (n : Nat) (perm : List Nat) : Prop := ∀ (s : Shared) (us ws : List Value), K.In s.heap → us.length = n → ws.length = ks.length → BindsTo s fd ⟨us, ks.zip ws⟩ (ps.zip (arr perm (us ++ ws)))
variable {g : Bool} {k n : Nat} {f : Addr} {fd : FuncData} {ps ks : List Str} {F : DFn} {perm : List Nat} {x : Str} {p pos : Pos} {ca ck : DAn}
def cKw (F : DFn) (n m : Nat) (perm : List Nat) (a b : DAn) : DEn := fun env S => (a env S).bind fun xs S1 => (b env S1).bind fun ys S2 => if xs.length = n ∧ ys.length = m then F (arr perm (xs ++ ys)) S2 else .bad
theorem se_callk (gX : Go X W) (n : Nat) (ks : List Str) (perm : List Nat) (hF : FnB g X.prog X.w X.K X.mg X.base (L2.CX X.prog X.w) k f fd ps (spD X.K X.mg F)) (hr : Room k X.A) (hgd : g = true → X.A.guards = some []) (hm : X.mg x = some (.ref f)) (hk : PySem.W.keepIn X.K (.ref f) = true) (hb : KwB X.K fd ps ks n perm)
    (ha : SA X W (e :: es) ca) (hkw : SK X W kws ck) (hg : Gl X x := by rfl) (hall : (backToKw pos (keywordEach kws X.env)).all (·.1.isSome) = true := by rfl) (hks : (backToKw pos (keywordEach kws X.env)).filterMap (·.1) = ks := by rfl)
    (hd : (x == ("__debug__" : Str)) = false := by decide) (he : starEach (e :: es) X.env = (false, eval e X.env) :: starEach es X.env := by rfl)
    (hpl : ((backTo pos (starEach (e :: es) X.env)).any (·.1) || (backToKw pos (keywordEach kws X.env)).any (·.1.isNone)) = false := by rfl) :
    SE X W (.Call (.Name x p) (e :: es) kws pos) (cKw F n ks.length perm ca ck) := by
  refine ⟨fun pins s σ H Q I h => ?_⟩
  obtain ⟨ι, env, S, hS, hE, q⟩ := h
  refine wpAny_Call_Name_kw (ld_glob I hg hm ?_ hd)
  refine PySem.W.callWith_KW (h₀ := X.base) I.ok.mod.kin hk hall (thn (ha.run pos pins s σ H (fun vs H1 => ∃ ι1 ds S1, SimS X.K X.mg ι1 H1 S1 ∧ RepE X.K X.mg ι1 H1 σ env ∧ RepL X.K X.mg ι1 H1 vs ds ∧ Aft X.K X.mg (RepV X.K X.mg) (fun cls dd H' => W cls dd σ H') ι1 H1 ((ck env S1).bind fun ys S2 => if ds.length = n ∧ ys.length = ks.length then F (arr perm (ds ++ ys)) S2 else .bad) Q) I
    (tDA.seq hS hE q fun ι1 H1 vs ds S1 _ x1 s1 e1 r1 q1 => ⟨ι1, ds, S1, s1, e1, r1, q1⟩)) fun us s1 ⟨vs, H1, I1, r, q⟩ => ?_) hpl he
  obtain ⟨ι1, ds, S1, s1', e1, r1, q⟩ := q
  refine thn (hkw.run pos pins s1 σ H1 (fun zs H2 => vs.length = n ∧ zs.length = ks.length ∧ spD X.K X.mg F (arr perm (vs ++ zs)) H2 Q (L2.WE W σ)) I1 (tDA.seq s1' e1 q fun ι2 H2 zs ys S2 _ x2 s2 e2 r2 q2 => ?_)) fun ws s2 ⟨zs, H2, I2, rz, l1, l2, q2⟩ => ⟨I2.kIn, ?_⟩
  · split at q2
    · rename_i hl
      exact ⟨r1.length.trans hl.1, r2.length.trans hl.2, ι2, arr perm (ds ++ ys), S2, s2, arr_rep ((r1.ext x2).append r2) perm, q2⟩
    · exact q2.elim
  · rw [hks]
    exact run_b (E := L2.WE W) hF hr hgd (hb s2 us ws I2.kIn (r.length.symm.trans l1) (rz.length.symm.trans l2)) (passAt gX.tk σ) I2 (arr_vals (r.append rz) perm) q2
/-- keywords alone -/
theorem se_callk0 (gX : Go X W) (ks : List Str) (perm : List Nat) (hF : FnB g X.prog X.w X.K X.mg X.base (L2.CX X.prog X.w) k f fd ps (spD X.K X.mg F)) (hr : Room k X.A) (hgd : g = true → X.A.guards = some []) (hm : X.mg x = some (.ref f)) (hk : PySem.W.keepIn X.K (.ref f) = true) (hb : KwB X.K fd ps ks 0 perm)
    (hkw : SK X W kws ck) (hg : Gl X x := by rfl) (hall : (backToKw pos (keywordEach kws X.env)).all (·.1.isSome) = true := by rfl) (hks : (backToKw pos (keywordEach kws X.env)).filterMap (·.1) = ks := by rfl)
    (hd : (x == ("__debug__" : Str)) = false := by decide)
    (hpl : ((backTo pos (starEach [] X.env)).any (·.1) || (backToKw pos (keywordEach kws X.env)).any (·.1.isNone)) = false := by rfl) :
    SE X W (.Call (.Name x p) [] kws pos) (cKw F 0 ks.length perm cNil ck) := by
  refine ⟨fun pins s σ H Q I h => ?_⟩
  obtain ⟨ι, env, S, hS, hE, q⟩ := h
  refine wpAny_Call_Name_kw (ld_glob I hg hm ?_ hd)
  have q : Aft X.K X.mg (RepV X.K X.mg) (fun cls dd H' => W cls dd σ H') ι H ((ck env S).bind fun ys S2 => if ([] : List D).length = 0 ∧ ys.length = ks.length then F (arr perm ([] ++ ys)) S2 else .bad) Q := q
  refine PySem.W.callWith_KW0 (h₀ := X.base) I.ok.mod.kin hk hall (thn (hkw.run pos pins s σ H (fun zs H2 => zs.length = ks.length ∧ spD X.K X.mg F (arr perm ([] ++ zs)) H2 Q (L2.WE W σ)) I (tDA.seq hS hE q fun ι2 H2 zs ys S2 _ x2 s2 e2 r2 q2 => ?_)) fun ws s2 ⟨zs, H2, I2, rz, l2, q2⟩ => ⟨I2.kIn, ?_⟩) hpl
  · split at q2
    · rename_i hl
      exact ⟨r2.length.trans hl.2, ι2, arr perm ([] ++ ys), S2, s2, arr_rep (vs := [] ++ zs) (ds := [] ++ ys) r2 perm, q2⟩
    · exact q2.elim
  · rw [hks]
    exact run_b (E := L2.WE W) hF hr hgd (hb s2 [] ws I2.kIn rfl (rz.length.symm.trans l2)) (passAt gX.tk σ) I2 (arr_vals (show Vals ([] ++ zs) ([] ++ ws) from rz) perm) q2
end
end DL
end

section
set_option Elab.async false
set_option linter.all false
set_option maxRecDepth 100000
set_option maxHeartbeats 4000000
set_option autoImplicit false
/-! itertools.combinations -/
namespace DC
open PySem PySem.Spec
theorem owner_c : Manifest.owners.lookup (String.ofList ['s', 'n', 'o', 'i', 't', 'a', 'n', 'i', 'b', 'm', 'o', 'c', '.', 's', 'l', 'o', 'o', 't', 'r', 'e', 't', 'i'].reverse) = some Manifest.sig_itertools_combinations := by kernel_rfl
theorem slot_next : Slot CT "__next__" "itertools.combinations.__next__" :=
  .of (owner := CT) (n := "__next__") (by rw [typeLookup_type, builtinLookup_eq_fast]; kernel_rfl) (by decide +kernel) (by decide +kernel) (by decide +kernel)
    (by first | exact .inl (by decide +kernel) | exact .inr (by decide +kernel)) (by rw [isSubtype_type]; kernel_rfl)
theorem entry_next : entryFor table "itertools.combinations.__next__" = some Builtin.«itertools.combinations.__next__» := entryFor_of_tree (by kernel_rfl)
theorem args_next (a : Value) : argsOk "itertools.combinations.__next__" ⟨[a], []⟩ := by
  unfold argsOk; rw [signature?_of (id := "itertools.combinations.__next__") (n := ['_', '_', 't', 'x', 'e', 'n', '_', '_']) (o := ['s', 'n', 'o', 'i', 't', 'a', 'n', 'i', 'b', 'm', 'o', 'c', '.', 's', 'l', 'o', 'o', 't', 'r', 'e', 't', 'i']) (by kernel_rfl) owner_c]; kernel_rfl
theorem slot_iter : Slot CT "__iter__" "itertools.combinations.__iter__" :=
  .of (owner := CT) (n := "__iter__") (by rw [typeLookup_type, builtinLookup_eq_fast]; kernel_rfl) (by decide +kernel) (by decide +kernel) (by decide +kernel)
    (by first | exact .inl (by decide +kernel) | exact .inr (by decide +kernel)) (by rw [isSubtype_type]; kernel_rfl)
theorem entry_iter : entryFor table "itertools.combinations.__iter__" = some Builtin.«dict_keyiterator.__iter__» :=
  entryFor_alias (id' := "dict_keyiterator.__iter__") (by kernel_rfl) (by first | rfl | decide +kernel | (unfold String.splitOn; simp +decide [String.splitOnAux])) (by decide +kernel) (by kernel_rfl)
theorem args_iter (a : Value) : argsOk "itertools.combinations.__iter__" ⟨[a], []⟩ := by
  unfold argsOk; rw [signature?_of (id := "itertools.combinations.__iter__") (n := ['_', '_', 'r', 'e', 't', 'i', '_', '_']) (o := ['s', 'n', 'o', 'i', 't', 'a', 'n', 'i', 'b', 'm', 'o', 'c', '.', 's', 'l', 'o', 'o', 't', 'r', 'e', 't', 'i']) (by kernel_rfl) owner_c]; kernel_rfl
theorem entry_new : entryFor table "itertools.combinations.__new__" = some Builtin.«itertools.combinations.__new__» := entryFor_of_tree (by kernel_rfl)
theorem typeCall (a b : Value) : checkTypeCall CT ⟨[a, b], []⟩ = pure () := by kernel_rfl
theorem newCall (a b : Value) : checkBuiltinCall "itertools.combinations.__new__" ⟨[.type CT, a, b], []⟩ = pure () := by kernel_rfl

theorem mro_c : mroOf (.type CT) = pure [.type CT, .type "object"] := by rw [mroOf_type]; kernel_rfl
theorem lookup_new : typeLookup (.type CT) "__new__" = pure (some (.builtin "itertools.combinations.__new__")) := by rw [typeLookup_type, builtinLookup_eq_fast]; kernel_rfl
theorem slot_init : Slot CT "__init__" "object.__init__" :=
  .of (owner := "object") (n := "__init__") (by rw [typeLookup_type, builtinLookup_eq_fast]; kernel_rfl) (by decide +kernel) (by decide +kernel) (by decide +kernel)
    (by first | exact .inl (by decide +kernel) | exact .inr (by decide +kernel)) (by rw [isSubtype_type]; kernel_rfl)
theorem called : TypeCalled CT "itertools.combinations.__new__" "object.__init__" :=
  ⟨by decide +kernel, by decide +kernel, ⟨_, _, mro_c⟩, madeBy_type mro_c lookup_new (by decide +kernel), by decide +kernel, by rw [isSubtype_type]; kernel_rfl, slot_init⟩
theorem bindNamed (x r : Value) : Builtin.Itertools.itBindNamed "combinations" ["iterable", "r"] 2 2 [x, r] [] = pure [some x, some r] := by kernel_rfl
theorem sub_c : isSubtype (.type CT) (.type ("itertools." ++ "combinations")) = pure true := by rw [isSubtype_type]; kernel_rfl
theorem classRest (x r : Value) : Builtin.Itertools.itClassAndRest "combinations" ⟨[.type CT, x, r], []⟩ = pure (.type CT, [x, r]) := by
  unfold Builtin.Itertools.itClassAndRest
  have e1 : isType (.type CT) = pure true := by kernel_rfl
  simp only [e1, sub_c]
  rfl
theorem hasDict : typeHasDict (.type CT) = false := by decide +kernel
end DC
end

section
set_option Elab.async false
set_option linter.all false
set_option maxRecDepth 100000
set_option maxHeartbeats 4000000
set_option autoImplicit false
/-! rows of places, one behind another -/
namespace DC
/-- the next row of r places below n -/
def nxt (n : Nat) : List Nat → Option (List Nat)
  | [] => none
  | x :: t => match nxt n t with
    | some t' => some (x :: t')
    | none => if x = n - (t.length + 1) then none else some ((List.range (t.length + 1)).map fun j => x + 1 + j)
/-- all rows of r places of lo, lo + 1, .. (m of them), ascending -/
def cmb : Nat → Nat → Nat → List (List Nat)
  | _, _, 0 => [[]]
  | _, 0, _ + 1 => []
  | lo, m + 1, r + 1 => (cmb (lo + 1) m r).map (lo :: ·) ++ cmb (lo + 1) m (r + 1)
def Run (n : Nat) : List (List Nat) → Prop
  | [] => True
  | [a] => nxt n a = none
  | a :: b :: l => nxt n a = some b ∧ Run n (b :: l)
theorem cmb_len : ∀ (m lo r : Nat) (a : List Nat), a ∈ cmb lo m r → a.length = r
  | m, lo, 0, a, h => by
    cases m <;> simp [cmb] at h <;> simp [h]
  | 0, lo, r + 1, a, h => by simp [cmb] at h
  | m + 1, lo, r + 1, a, h => by
    simp only [cmb, List.mem_append, List.mem_map] at h
    rcases h with ⟨t, h1, rfl⟩ | h
    · simp [cmb_len m (lo + 1) r t h1]
    · exact cmb_len m (lo + 1) (r + 1) a h
theorem cmb_lt : ∀ (m lo r : Nat) (a : List Nat), a ∈ cmb lo m r → ∀ i ∈ a, lo ≤ i ∧ i < lo + m
  | m, lo, 0, a, h => by
    cases m <;> simp [cmb] at h <;> simp [h]
  | 0, lo, r + 1, a, h => by simp [cmb] at h
  | m + 1, lo, r + 1, a, h => by
    simp only [cmb, List.mem_append, List.mem_map] at h
    rcases h with ⟨t, h1, rfl⟩ | h
    · intro i hi
      rcases List.mem_cons.mp hi with rfl | hi
      · omega
      · have := cmb_lt m (lo + 1) r t h1 i hi
        omega
    · intro i hi
      have := cmb_lt m (lo + 1) (r + 1) a h i hi
      omega
theorem cmb_none : ∀ (m lo r : Nat), m < r → cmb lo m r = []
  | m, lo, 0, h => by omega
  | 0, lo, r + 1, h => by simp [cmb]
  | m + 1, lo, r + 1, h => by
    simp only [cmb, cmb_none m (lo + 1) r (by omega), cmb_none m (lo + 1) (r + 1) (by omega)]
    rfl
theorem cmb_head : ∀ (m lo r : Nat), r ≤ m → ∃ l, cmb lo m r = ((List.range r).map fun j => lo + j) :: l
  | m, lo, 0, h => by cases m <;> exact ⟨[], by simp [cmb]⟩
  | 0, lo, r + 1, h => by omega
  | m + 1, lo, r + 1, h => by
    obtain ⟨l, e⟩ := cmb_head m (lo + 1) r (by omega)
    refine ⟨l.map (lo :: ·) ++ cmb (lo + 1) m (r + 1), ?_⟩
    simp only [cmb, e, List.map_cons, List.cons_append]
    congr 2
    rw [List.range_succ_eq_map, List.map_cons, List.map_map]
    congr 1
    refine List.map_congr_left fun j _ => ?_
    simp only [Function.comp]
    omega
theorem run_map (n x r : Nat) (tail : List (List Nat)) (ht : Run n tail) (hj : (tail = [] ∧ x = n - (r + 1)) ∨ (x ≠ n - (r + 1) ∧ ∃ l, tail = ((List.range (r + 1)).map fun j => x + 1 + j) :: l)) :
    ∀ L : List (List Nat), L ≠ [] → Run n L → (∀ a ∈ L, a.length = r) → Run n (L.map (x :: ·) ++ tail)
  | [], h, _, _ => absurd rfl h
  | [a], _, h, hl => by
    have h : nxt n a = none := h
    have la : a.length = r := hl a (by simp)
    rcases hj with ⟨rfl, hx⟩ | ⟨hx, l, rfl⟩
    · show nxt n (x :: a) = none
      simp [nxt, h, la, hx]
    · refine ⟨?_, ht⟩
      simp [nxt, h, la, hx]
  | a :: b :: L, _, h, hl => by
    refine ⟨?_, run_map n x r tail ht hj (b :: L) (by simp) h.2 (fun c hc => hl c (List.mem_cons_of_mem _ hc))⟩
    simp [nxt, h.1]
theorem run_cmb : ∀ (m lo r : Nat), Run (lo + m) (cmb lo m r)
  | m, lo, 0 => by cases m <;> simp [cmb, Run, nxt]
  | 0, lo, r + 1 => by simp [cmb, Run]
  | m + 1, lo, r + 1 => by
    have e : lo + (m + 1) = lo + 1 + m := by omega
    have ih1 := run_cmb m (lo + 1) r
    have ih2 := run_cmb m (lo + 1) (r + 1)
    rw [e]
    by_cases hr : r ≤ m
    · obtain ⟨l, el⟩ := cmb_head m (lo + 1) r hr
      refine run_map (lo + 1 + m) lo r (cmb (lo + 1) m (r + 1)) ih2 ?_ (cmb (lo + 1) m r) (by rw [el]; simp) ih1 fun a ha => cmb_len _ _ _ a ha
      by_cases hr2 : r + 1 ≤ m
      · obtain ⟨l2, e2⟩ := cmb_head m (lo + 1) (r + 1) hr2
        exact .inr ⟨by omega, l2, e2⟩
      · exact .inl ⟨cmb_none _ _ _ (by omega), by omega⟩
    · show Run _ ((cmb (lo + 1) m r).map (lo :: ·) ++ cmb (lo + 1) m (r + 1))
      rw [cmb_none _ _ _ (show m < r by omega), cmb_none _ _ _ (show m < r + 1 by omega)]
      trivial
theorem run_at (n : Nat) : ∀ (L : List (List Nat)) (i : Nat) (a : List Nat), Run n L → L[i]? = some a → nxt n a = L[i + 1]?
  | [], i, a, _, h => by simp at h
  | [b], 0, a, h, e => by
    simp at e
    subst e
    have h : nxt n b = none := h
    simpa using h
  | [b], i + 1, a, h, e => by simp at e
  | b :: c :: L, 0, a, h, e => by
    simp at e
    subst e
    simpa using h.1
  | b :: c :: L, i + 1, a, h, e => run_at n (c :: L) i a h.2 (by simpa using e)
/-- the model's way to the next row -/
theorem find_nxt (n : Nat) : ∀ idx : List Nat, (match (List.range idx.length).reverse.find? fun i => idx.getD i 0 != i + n - idx.length with
    | none => none
    | some i => some (idx.take i ++ (List.range (idx.length - i)).map (idx.getD i 0 + 1 + ·))) = nxt n idx
  | [] => by simp [nxt]
  | x :: t => by
    have ih := find_nxt n t
    have e : (List.range (x :: t).length).reverse = ((List.range t.length).reverse.map Nat.succ) ++ [0] := by
      rw [List.length_cons, List.range_succ_eq_map, List.reverse_cons, List.map_reverse]
    rw [e, List.find?_append, List.find?_map]
    have e2 : ((fun i => (x :: t).getD i 0 != i + n - (x :: t).length) ∘ Nat.succ) = fun i => t.getD i 0 != i + n - t.length := by
      funext i
      simp only [Function.comp, List.getD_cons_succ, List.length_cons]
      have : i.succ + n - (t.length + 1) = i + n - t.length := by omega
      rw [this]
    rw [e2]
    cases hf : (List.range t.length).reverse.find? fun i => t.getD i 0 != i + n - t.length with
    | some j =>
      rw [hf] at ih
      simp only at ih
      simp only [Option.map_some, Option.some_or, nxt, ← ih]
      simp [Nat.succ_sub_succ_eq_sub]
    | none =>
      rw [hf] at ih
      simp only at ih
      simp only [Option.map_none, Option.none_or, nxt, ← ih]
      by_cases hx : x = n - (t.length + 1)
      · rw [if_pos hx]
        simp [hx]
      · rw [if_neg hx]
        simp [hx]
end DC
end

section
set_option Elab.async false
set_option linter.all false
set_option maxRecDepth 100000
set_option maxHeartbeats 4000000
set_option autoImplicit false
/-! the iterator of combinations, in the model -/
namespace DC
open PySem PySem.Spec PyProof.Rows L2
def recOf (P : Addr) (st : Int) (old : Value) (idx : List Nat) : Array Value := ([.ref P, rawInt st, old] ++ idx.map fun i : Nat => rawInt i).toArray
def IsC (h : Heap) (it P : Addr) (st : Int) (old : Value) (idx : List Nat) : Prop := ∃ o, h.get? it = some o ∧ o.cls = .type CT ∧ o.data = .fields (recOf P st old idx)
section
variable {prog : Program} {w : World} {A : Around} {E : Value → Shared → Prop} {s : Shared}
theorem IsC.typeIs {it P : Addr} {st : Int} {old : Value} {idx : List Nat} (h : IsC s.heap it P st old idx) : s.TypeIs (.ref it) CT := let ⟨o, ho, hc, _⟩ := h; ⟨o, ho, hc⟩
theorem iter_self {it P : Addr} {st : Int} {old : Value} {idx : List Nat} {Q : Value → Shared → Prop} (hit : IsC s.heap it P st old idx) (h : Q (.ref it) s) : wpAny (model prog w) A (pyIter (.ref it)) Q E s := by
  refine wpAny_pyIter_slot hit.typeIs slot_iter (wpAny_call_entry slot_iter hit.typeIs entry_iter ?_ (args_iter _))
  show wpAny _ _ (ret (.ref it)) _ _ s
  exact wpAny_pure ⟨_, rfl, CT, _, hit.typeIs, slot_next.lookup, h⟩
theorem nums_of {it P : Addr} {st : Int} {old : Value} {idx : List Nat} {Q : List Nat → Shared → Prop} (hit : IsC s.heap it P st old idx) (h : Q idx s) : wpAny (model prog w) A (Builtin.Itertools.itNumbersFrom (.ref it) 3) Q E s := by
  obtain ⟨o, ho, hc, hd⟩ := hit
  unfold Builtin.Itertools.itNumbersFrom
  refine wpAny_bind (wpAny_load ho ?_)
  rw [hd]
  refine wpAny_pure ?_
  have e : ((recOf P st old idx).toList.drop 3).map (fun | .int n _ => n.toNat | _ => 0) = idx := by
    simp only [recOf, List.toList_toArray]
    show ((idx.map fun i : Nat => rawInt i).map fun | .int n _ => n.toNat | _ => 0) = idx
    rw [List.map_map]
    have : ((fun | .int n _ => n.toNat | _ => 0) ∘ fun i : Nat => rawInt i) = id := by
      funext i
      simp [rawInt]
    rw [this, List.map_id]
  exact Eq.mpr (congrArg (fun l => Q l s) e) h
/-- one field written -/
theorem set_at {it P : Addr} {st st' : Int} {old old' : Value} {idx : List Nat} {o : Obj} {i : Nat} {v : Value} (ho : s.heap.get? it = some o) (hc : o.cls = .type CT) (hd : o.data = .fields (recOf P st old idx)) (hi : i < (recOf P st old idx).size) {Q : Unit → Shared → Prop}
    (e : (recOf P st old idx).setIfInBounds i v = recOf P st' old' idx) (h : ∀ h', IsC h' it P st' old' idx → Heap.SameBut it s.heap h' → Q () { s with heap := h' }) : wpAny (model prog w) A (setField (.ref it) i v) Q E s := by
  refine wpAny_setField ho hd hi (h _ ?_ (Heap.SameBut.update ..))
  refine ⟨_, Heap.get?_update_self _ ho (Obj.isFreed_of_fields (Obj.data_mapFields hd _)), (Obj.cls_mapFields ..).trans hc, ?_⟩
  rw [Obj.data_mapFields hd, e]
/-- all places written -/
theorem set_nums {it P : Addr} {st : Int} {old : Value} {idx idx' : List Nat} (hit : IsC s.heap it P st old idx) (hz : idx'.length ≤ sizeLine) {Q : Unit → Shared → Prop} (h : ∀ h', IsC h' it P st old idx' → Heap.SameBut it s.heap h' → Q () { s with heap := h' }) : wpAny (model prog w) A (Builtin.Itertools.itSetNumbersFrom (.ref it) 3 idx') Q E s := by
  obtain ⟨o, ho, hc, hd⟩ := hit
  unfold Builtin.Itertools.itSetNumbersFrom
  refine wpAny_updateFields ho hd (h _ ⟨_, Heap.get?_update_self _ ho (Obj.isFreed_of_fields (Obj.data_mapFields hd _)), (Obj.cls_mapFields ..).trans hc, ?_⟩ (Heap.SameBut.update ..)) ?_
  · rw [Obj.data_mapFields hd]
    congr 1
    apply Array.ext'
    simp [recOf]
  · simp [recOf]
    omega
/-- a row is handed out -/
theorem hand_out {it P : Addr} {st : Int} {old : Value} {idx : List Nat} {items : List Value} (hit : IsC s.heap it P st old idx) (hP : s.heap.IsTuple P items.toArray) (hPi : P ≠ it) (hz : idx.length ≤ sizeLine) {Q : Fin → Shared → Prop} {row : List Value} (hr : (idx.map fun i => items.toArray.getD i .none) = row)
    (h : ∀ h', IsC h' it P st (.ref s.heap.objs.size) idx → h'.get? s.heap.objs.size = some { cls := .type "tuple", data := .seq row.toArray } → h'.objs.size = s.heap.objs.size + 1 → (∀ b o, b ≠ it → s.heap.get? b = some o → h'.get? b = some o) → Q (.done (.ret (.ref s.heap.objs.size))) { s with heap := h' }) :
    wpAny (model prog w) A (do
      let result ← (do
        let items ← Builtin.Itertools.itPoolItems (.ref P)
        newTuple (idx.map fun i => items.getD i .none))
      let before ← field (.ref it) 2
      setField (.ref it) 2 result
      letGo [before] [result]
      ret result) Q E s := by
  obtain ⟨op, hop, hcp, np, hdp⟩ := hP
  obtain ⟨o, ho, hc, hd⟩ := hit
  unfold Builtin.Itertools.itPoolItems
  simp only [bind_assoc]
  refine wpAny_bind (wpAny_seqItems hop hdp ?_)
  refine wpAny_bind (wpAny_pure ?_)
  rw [hr]
  refine wpAny_bind (wpAny_newTuple ?_ (by rw [← hr, List.length_map]; exact hz))
  have ho2 : (s.heap.push { cls := .type "tuple", data := .seq row.toArray }).get? it = some o := Heap.get?_push_of_some _ ho
  refine wpAny_bind (wpAny_field ho2 hd (x := old) rfl ?_)
  refine wpAny_bind (set_at ho2 hc hd (st' := st) (old' := .ref s.heap.objs.size) (i := 2) (by simp [recOf]) (by simp [recOf, rawInt]) fun h' hI hs => ?_)
  refine wpAny_bind (wpAny_letGo ?_)
  have hne : s.heap.objs.size ≠ it := Nat.ne_of_gt (Heap.lt_size ho)
  refine wpAny_pure (h h' hI ?_ ?_ fun b o' hb e => (hs.2 b hb).trans (Heap.get?_push_of_some _ e))
  · exact (hs.2 _ hne).trans (Heap.get?_push_size _ rfl)
  · rw [hs.1, Heap.size_push]
/-- the next row: at the beginning; later on -/
theorem next_item {it P : Addr} {st : Int} {old : Value} {idx0 idx : List Nat} {items : List Value} (hit : IsC s.heap it P st old idx0) (hst : (st = 0 ∧ idx0 = idx) ∨ (st = 1 ∧ nxt items.length idx0 = some idx)) (hP : s.heap.IsTuple P items.toArray) (hPi : P ≠ it) (hz : idx.length ≤ sizeLine) {Q : Option Value → Shared → Prop} {row : List Value} (hr : (idx.map fun i => items.toArray.getD i .none) = row)
    (h : ∀ h', IsC h' it P 1 (.ref s.heap.objs.size) idx → h'.get? s.heap.objs.size = some { cls := .type "tuple", data := .seq row.toArray } → h'.objs.size = s.heap.objs.size + 1 → (∀ b o, b ≠ it → s.heap.get? b = some o → h'.get? b = some o) → Q (some (.ref s.heap.objs.size)) { s with heap := h' }) :
    wpAny (model prog w) A (pyNext (.ref it)) Q E s := by
  unfold pyNext
  refine wpAny_bind (wpAny_attempt (wpAny_callSpecial?_slot (name := Str.ofString "__next__") hit.typeIs slot_next
    (wpAny_call_entry slot_next hit.typeIs entry_next ?_ (args_next _))))
  obtain ⟨o, ho, hc, hd⟩ := id hit
  show wpAny _ _ (field (.ref it) 0 >>= _) _ _ s
  refine wpAny_bind (wpAny_field ho hd (x := .ref P) rfl ?_)
  show wpAny _ _ (Builtin.Itertools.itNumbersFrom (.ref it) 3 >>= _) _ _ s
  refine wpAny_bind (nums_of hit ?_)
  show wpAny _ _ (Builtin.Itertools.itIntField (.ref it) 1 >>= _) _ _ s
  refine wpAny_bind ?_
  unfold Builtin.Itertools.itIntField
  refine wpAny_bind (wpAny_field ho hd (x := rawInt st) rfl ?_)
  show wpAny _ _ (pure st) _ _ s
  refine wpAny_pure ?_
  have hsel : P ≠ it := hPi
  -- what hands out, from any state that differs at it alone
  have fin2 : ∀ (h1 : Heap) (E2 : Value → Shared → Prop), IsC h1 it P 1 old idx → Heap.SameBut it s.heap h1 → wpAny (model prog w) A.in1 (do
      let result ← (do
        let items ← Builtin.Itertools.itPoolItems (.ref P)
        newTuple (idx.map fun i => items.getD i .none))
      let before ← field (.ref it) 2
      setField (.ref it) 2 result
      letGo [before] [result]
      ret result) (fun fin s' => ∃ v, fin = .done (.ret v) ∧ wpAny (model prog w) A (pure (some v)) Q E s') E2 { s with heap := h1 } := fun h1 E2 i1 hs => by
    have z : h1.objs.size = s.heap.objs.size := hs.1
    refine hand_out (s := { s with heap := h1 }) i1 (hP.extBut hs.extBut hPi) hPi hz hr fun h' a b c d => ⟨_, rfl, wpAny_pure ?_⟩
    have a : IsC h' it P 1 (.ref h1.objs.size) idx := a
    have b : h'.get? h1.objs.size = some { cls := .type "tuple", data := .seq row.toArray } := b
    have c : h'.objs.size = h1.objs.size + 1 := c
    rw [z] at a b c
    show Q (some (.ref h1.objs.size)) { s with heap := h' }
    rw [z]
    exact h h' a b c fun b' o' hb e => d b' o' hb ((hs.2 b' hb).trans e)
  rcases hst with ⟨rfl, rfl⟩ | ⟨rfl, hnx⟩
  · show wpAny _ _ (setField (.ref it) 1 (rawInt 1) >>= _) _ _ s
    refine wpAny_bind (set_at ho hc hd (st' := 1) (old' := old) (i := 1) (by simp [recOf]) (by simp [recOf, rawInt]) fun h1 i1 hs => ?_)
    exact fin2 h1 _ i1 hs
  · obtain ⟨op, hop, hcp, np, hdp⟩ := id hP
    show wpAny _ _ (Builtin.Itertools.itPoolItems (.ref P) >>= _) _ _ s
    refine wpAny_bind ?_
    unfold Builtin.Itertools.itPoolItems
    refine wpAny_bind (wpAny_seqItems hop hdp ?_)
    refine wpAny_pure ?_
    have en := find_nxt items.length idx0
    rw [hnx] at en
    split
    · rename_i next heq
      have e := en.symm.trans heq
      cases e
      refine wpAny_bind (set_nums hit hz fun h1 i1 hs => ?_)
      exact fin2 h1 _ i1 hs
    · rename_i heq
      have e := en.symm.trans heq
      cases e
/-- no more -/
theorem next_end {it P : Addr} {st : Int} {old : Value} {idx0 : List Nat} {items : List Value} (hh : A.handled = none) (hit : IsC s.heap it P st old idx0) (hst : (st = 2) ∨ (st = 1 ∧ nxt items.length idx0 = none)) (hP : s.heap.IsTuple P items.toArray) (hPi : P ≠ it) {Q : Option Value → Shared → Prop}
    (h : ∀ h', Heap.ExtBut it s.heap h' → Q none { s with heap := h' }) :
    wpAny (model prog w) A (pyNext (.ref it)) Q E s := by
  unfold pyNext
  refine wpAny_bind (wpAny_attempt (wpAny_callSpecial?_slot (name := Str.ofString "__next__") hit.typeIs slot_next
    (wpAny_call_entry slot_next hit.typeIs entry_next ?_ (args_next _))))
  obtain ⟨o, ho, hc, hd⟩ := id hit
  show wpAny _ _ (field (.ref it) 0 >>= _) _ _ s
  refine wpAny_bind (wpAny_field ho hd (x := .ref P) rfl ?_)
  show wpAny _ _ (Builtin.Itertools.itNumbersFrom (.ref it) 3 >>= _) _ _ s
  refine wpAny_bind (nums_of hit ?_)
  show wpAny _ _ (Builtin.Itertools.itIntField (.ref it) 1 >>= _) _ _ s
  refine wpAny_bind ?_
  unfold Builtin.Itertools.itIntField
  refine wpAny_bind (wpAny_field ho hd (x := rawInt st) rfl ?_)
  show wpAny _ _ (pure st) _ _ s
  refine wpAny_pure ?_
  -- the end itself, from any state that goes on
  have fin : ∀ (h1 : Heap), Heap.ExtBut it s.heap h1 → wpAny (model prog w) A.in1 (Builtin.Itertools.itStop : Sem Fin) (fun fin s' => ∃ v, fin = .done (.ret v) ∧ wpAny (model prog w) A (pure (some v)) Q E s')
      (fun e s' => wpAny (model prog w) A (do
        let b ← isInstance e (.type "StopIteration")
        if b = true then pure none else throw e) Q E s') { s with heap := h1 } := fun h1 hx => by
    unfold Builtin.Itertools.itStop
    refine wpAny_bind ?_
    simp only [newExc, newTuple]
    refine wpAny_bind (wpAny_newObj_type ?_ (by size_fits))
    refine wpAny_bind (m := firstArgMember _ _) (wpAny_of_eq (a := Value.none) (by first | rfl | (simp only [firstArgMember]; rfl)) ?_)
    refine wpAny_newObj_type ?_ (by size_fits)
    simp only [raiseNew]
    refine wpAny_bind (wpAny_handled ?_)
    rw [show A.in1.handled = none from hh]
    refine wpAny_bind (wpAny_pure (wpAny_throw ?_))
    refine wpAny_bind (wpAny_isInstance (T := "StopIteration") (b := true) ⟨_, Heap.get?_push_size _ rfl, rfl⟩ isSubtype_stop ?_)
    exact wpAny_pure (h _ ((hx.push _).push _))
  rcases hst with rfl | ⟨rfl, hnx⟩
  · show wpAny _ _ (rule "itertools.combinations.ended" >>= fun _ => Builtin.Itertools.itStop) _ _ s
    exact wpAny_bind (wpAny_rule (fin s.heap (Heap.ExtBut.refl _ _)))
  · obtain ⟨op, hop, hcp, np, hdp⟩ := id hP
    show wpAny _ _ (Builtin.Itertools.itPoolItems (.ref P) >>= _) _ _ s
    refine wpAny_bind ?_
    unfold Builtin.Itertools.itPoolItems
    refine wpAny_bind (wpAny_seqItems hop hdp ?_)
    refine wpAny_pure ?_
    have en := find_nxt items.length idx0
    rw [hnx] at en
    split
    · rename_i next heq
      have e := en.symm.trans heq
      cases e
    · refine wpAny_bind (set_at ho hc hd (st' := 2) (old' := old) (i := 1) (by simp [recOf]) (by simp [recOf, rawInt]) fun h1 i1 hs => ?_)
      exact fin h1 hs.extBut
end
end DC
end

section
set_option Elab.async false
set_option linter.all false
set_option maxRecDepth 100000
set_option maxHeartbeats 4000000
set_option autoImplicit false
/-! combinations(xs, r) is made, walked -/
namespace DC
open PySem PySem.Spec PyProof.Rows L2
theorem meets_new (l : Addr) (o : Obj) (items : List Value) (n : Nat) (T : String) (hT : T = "list" ∨ T = "tuple") (hc : o.cls = .type T) (hd : o.data = .seq items.toArray n) (hsz : items.length ≤ sizeLine) (r : Int) (t : Tok) (h0 : 0 ≤ r) (h1 : r ≤ 2 ^ 20) :
    Meets (Builtin.«itertools.combinations.__new__» ⟨[.type CT, .ref l, .int r t], []⟩)
      (fun _ R s => s.heap.get? l = some o ∧ ∀ h' : Heap, (∀ b o', s.heap.get? b = some o' → h'.get? b = some o') →
        R (.ok (.ret (.ref (h'.objs.size + 1)))) { s with heap := (h'.push { cls := .type "tuple", data := .seq items.toArray }).push { cls := .type CT, data := .fields (recOf h'.objs.size (if r.toNat > items.length then 2 else 0) .none (List.range r.toNat)) } }) :=
  .of_wp fun prog w A R s h => by
    obtain ⟨ho, h⟩ := h
    unfold Builtin.«itertools.combinations.__new__»
    refine wpAny_bind ?_
    show wpAny _ _ (Builtin.Itertools.itClassAndRest "combinations" ⟨[.type CT, .ref l, .int r t], []⟩ >>= _) _ _ _
    rw [classRest]
    refine wpAny_bind (wpAny_pure ?_)
    show wpAny _ _ (Builtin.Itertools.itBindNamed "combinations" ["iterable", "r"] 2 2 [.ref l, .int r t] [] >>= _) _ _ _
    rw [bindNamed]
    refine wpAny_bind (wpAny_pure ?_)
    show wpAny _ _ (Builtin.Itertools.itSsizeArg (.int r t) >>= _) _ _ _
    refine wpAny_bind ?_
    unfold Builtin.Itertools.itSsizeArg asIndex
    refine wpAny_bind ?_
    show wpAny _ _ (pure (some r) >>= _) _ _ _
    refine wpAny_bind (wpAny_pure ?_)
    show wpAny _ _ (pure r) _ _ _
    refine wpAny_pure ?_
    have hb : (decide (r < -(2 ^ 63 : Int)) || decide (r ≥ 2 ^ 63)) = false := by
      rw [Bool.or_eq_false_iff]
      exact ⟨decide_eq_false (by omega), decide_eq_false (by omega)⟩
    rw [hb]
    show wpAny _ _ (pure r) _ _ _
    refine wpAny_pure ?_
    refine wpAny_bind (wpAny_collect_seq l hT ho hc hd (fun h' hk => ?_) (by rw [List.size_toArray]; exact hsz))
    have hn : ¬ r < 0 := by omega
    rw [if_neg hn]
    show wpAny _ _ (if Builtin.Itertools.itTooMany r = true then _ else _) _ _ _
    have ht : Builtin.Itertools.itTooMany r = false := decide_eq_false (by omega)
    rw [ht, if_neg Bool.false_ne_true]
    refine wpAny_bind (wpAny_newTuple ?_ hsz)
    refine wpAny_pure ?_
    refine wpAny_bind ?_
    unfold Builtin.Itertools.itNewRecord
    rw [hasDict]
    rw [if_pos (show (!false) = true from rfl)]
    refine wpAny_newObj_type ?_ ?_
    · have hz : (h'.push { cls := .type "tuple", data := .seq items.toArray }).objs.size = h'.objs.size + 1 := Heap.size_push ..
      refine wpAny_pure ⟨_, rfl, ?_⟩
      have q := h h' hk
      show R (.ok (.ret (.ref (h'.push { cls := .type "tuple", data := .seq items.toArray }).objs.size))) _
      rw [hz]
      exact q
    · show (List.toArray _).size ≤ _
      simp
      have := sizeLine_eq
      omega
section
variable {prog : Program} {w : World} {A : Around} {E : Value → Shared → Prop} {s : Shared}
theorem call_new {l : Addr} {o : Obj} {items : List Value} {n : Nat} {T : String} {r : Int} {t : Tok} {Q : Value → Shared → Prop} (hT : T = "list" ∨ T = "tuple") (ho : s.heap.get? l = some o) (hc : o.cls = .type T) (hd : o.data = .seq items.toArray n) (hsz : items.length ≤ sizeLine) (h0 : 0 ≤ r) (h1 : r ≤ 2 ^ 20)
    (h : ∀ (h1 h' : Heap) (it P : Addr), (∀ b o', s.heap.get? b = some o' → h1.get? b = some o') → IsC h' it P (if r.toNat > items.length then 2 else 0) .none (List.range r.toNat) → h'.IsTuple P items.toArray → P ≠ it → h1.objs.size ≤ it → h1.objs.size ≤ P → (∀ b o', h1.get? b = some o' → h'.get? b = some o') → Q (.ref it) { s with heap := h' }) :
    wpAny (model prog w) A (call (.type CT) [.ref l, .int r t]) Q E s := by
  refine callType_new called (by decide) (typeCall _ _) (newCall _ _) (fun obj => F.args_object_init_3 obj _ _) entry_new (meets_new l o items n T hT hc hd hsz r t h0 h1) ⟨ho, fun h' hk => ?_⟩
  have hz : (h'.push { cls := .type "tuple", data := .seq items.toArray }).objs.size = h'.objs.size + 1 := Heap.size_push ..
  have hg : ((h'.push { cls := .type "tuple", data := .seq items.toArray }).push { cls := .type CT, data := .fields (recOf h'.objs.size (if r.toNat > items.length then 2 else 0) .none (List.range r.toNat)) }).get? (h'.objs.size + 1) = some { cls := .type CT, data := .fields (recOf h'.objs.size (if r.toNat > items.length then 2 else 0) .none (List.range r.toNat)) } := by
    rw [← hz]
    exact Heap.get?_push_size _ rfl
  refine ⟨⟨_, hg, rfl⟩, h h' _ (h'.objs.size + 1) h'.objs.size hk ⟨_, hg, rfl, rfl⟩ ⟨_, Heap.get?_push_of_some _ (Heap.get?_push_size _ rfl), rfl, _, rfl⟩ (Nat.ne_of_lt (Nat.lt_succ_self _)) (Nat.le_succ _) (Nat.le_refl _) fun b o' e => Heap.get?_push_of_some _ (Heap.get?_push_of_some _ e)⟩
end
/-- a pool's rows -/
def rows {α : Type} (xs : List α) (r : Nat) : List (List α) := (cmb 0 xs.length r).map fun idx => idx.filterMap fun i => xs[i]?
/-- new rows of the pool xs, one a turn -/
def Itc (xs : List V) (r : Nat) : It := ⟨fun i _ => i < (rows xs r).length, fun i H v H' => ∃ T row, v = .ref T ∧ H T = none ∧ (rows xs r)[i]? = some row ∧ H' = upd H T (.tup row), fun i _ => (rows xs r).length ≤ i⟩
theorem rows_len {α : Type} (xs : List α) (r : Nat) : (rows xs r).length = (cmb 0 xs.length r).length := by simp [rows]
theorem pick_row {xs : List V} {us : List Value} (rv : Vals xs us) : ∀ {idx : List Nat}, (∀ i ∈ idx, i < us.length) → Vals (idx.filterMap fun i => xs[i]?) (idx.map fun i => us.toArray.getD i .none)
  | [], _ => .nil
  | i :: idx, h => by
    have hi := h i List.mem_cons_self
    have hx : i < xs.length := by rw [rv.length]; exact hi
    obtain ⟨u, hu, r⟩ := rv.get (List.getElem?_eq_getElem hx)
    have e2 : us.toArray.getD i .none = u := by
      rw [List.getElem?_eq_getElem hi] at hu
      cases hu
      simp [Array.getD, hi]
    rw [List.filterMap_cons, List.getElem?_eq_getElem hx, List.map_cons, e2]
    exact .cons r (pick_row rv fun j hj => h j (List.mem_cons_of_mem _ hj))
theorem turn_c {P : Program} {w : World} {K : PySem.W.Frag} {tg : Expr} (xs : List V) (us : List Value) (r : Nat) (Pl it : Addr) (rv : Vals xs us) (hz : r ≤ 2 ^ 20) (hne : Pl ≠ it) :
    Turn P w K tg (Itc xs r) [it, Pl] it (fun i h => h.IsTuple Pl us.toArray ∧ ∃ old idx, (i = 0 ∧ IsC h it Pl (if r > us.length then 2 else 0) old (List.range r)) ∨ (∃ j, i = j + 1 ∧ (cmb 0 us.length r)[j]? = some idx ∧ IsC h it Pl 1 old idx)) where
  mem := by simp
  obj := fun i h st b hb => by
    obtain ⟨⟨o1, e1, c1, n1, d1⟩, old, idx, st⟩ := st
    have e' : b = it ∨ b = Pl := by simpa using hb
    rcases e' with z | z
    · rw [z]
      rcases st with ⟨_, o, ho, _, hd⟩ | ⟨_, _, _, o, ho, _, hd⟩
      · exact ⟨o, ho, fun v q => by rw [hd] at q; cases q⟩
      · exact ⟨o, ho, fun v q => by rw [hd] at q; cases q⟩
    · rw [z]
      exact ⟨o1, e1, fun v q => by rw [d1] at q; cases q⟩
  keep := fun i h h' st k => by
    obtain ⟨⟨o1, e1, r1⟩, old, idx, st⟩ := st
    refine ⟨⟨o1, k Pl (by simp) _ e1, r1⟩, old, idx, ?_⟩
    rcases st with ⟨z, o, ho, r2⟩ | ⟨j, z, z2, o, ho, r2⟩
    · exact .inl ⟨z, o, k it (by simp) _ ho, r2⟩
    · exact .inr ⟨j, z, z2, o, k it (by simp) _ ho, r2⟩
  item := by
    intro X hP hw hK hc i pins s σ H E I hf st hg
    subst hP hw hK
    obtain ⟨hpl, old, idx, st⟩ := st
    have hg : i < (rows xs r).length := hg
    have hl := rv.length
    rw [rows_len, hl] at hg
    have hsl := sizeLine_eq
    -- the row of this turn
    obtain ⟨row, hrow⟩ : ∃ row, (cmb 0 us.length r)[i]? = some row := ⟨_, List.getElem?_eq_getElem hg⟩
    have hmem := List.mem_of_getElem? hrow
    have hrl := cmb_len _ _ _ _ hmem
    have hlt : ∀ j ∈ row, j < us.length := fun j hj => by
      have := cmb_lt _ _ _ _ hmem j hj
      omega
    have hit : ∃ st0 old idx0, IsC s.heap it Pl st0 old idx0 ∧ ((st0 = 0 ∧ idx0 = row) ∨ (st0 = 1 ∧ nxt us.length idx0 = some row)) := by
      rcases st with ⟨rfl, hi⟩ | ⟨j, rfl, hj, hi⟩
      · have hr : r ≤ us.length := by
          by_cases z : r ≤ us.length
          · exact z
          · rw [cmb_none _ _ _ (by omega)] at hrow
            simp at hrow
        rw [if_neg (by omega)] at hi
        obtain ⟨l, el⟩ := cmb_head us.length 0 r hr
        rw [el] at hrow
        have e : ((List.range r).map fun j => 0 + j) = row := by simpa using hrow
        refine ⟨0, old, List.range r, hi, .inl ⟨rfl, ?_⟩⟩
        rw [← e]
        simp
      · have hn := run_at us.length (cmb 0 us.length r) j idx (by simpa using run_cmb us.length 0 r) hj
        rw [hrow] at hn
        exact ⟨1, old, idx, hi, .inr ⟨rfl, hn⟩⟩
    obtain ⟨st0, old0, idx0, hI, hS⟩ := hit
    have hil : it < s.heap.objs.size := by obtain ⟨_, q, _⟩ := hI; exact Heap.lt_size q
    have hpll : Pl < s.heap.objs.size := by obtain ⟨_, q, _⟩ := hpl; exact Heap.lt_size q
    refine next_item hI hS hpl hne (by omega) rfl fun h' a b c d => ?_
    have hv := pick_row rv hlt
    have new : ObjOk X.prog X.w (upd H s.heap.objs.size (.tup (row.filterMap fun i => xs[i]?))) h' s.heap.objs.size (.tup (row.filterMap fun i => xs[i]?)) :=
      ⟨by rw [hv.length, List.length_map]; omega, _, hv, ⟨_, b, rfl, _, rfl⟩⟩
    have I1 : L2.Inv X pins σ (upd H s.heap.objs.size (.tup (row.filterMap fun i => xs[i]?))) { s with heap := h' } :=
      I.turnedNew (t' := s.toks) (ch := [it, Pl]) (fun b' ob hb q => d b' ob (fun z => hb (by simp [z])) q) hf (Nat.le_refl _) new
    obtain ⟨o, ho, hcl, hd⟩ := id a
    refine ⟨_, rfl, go_of (s := { s with heap := h' }) ho hcl hd (by decide) ⟨.ref s.heap.objs.size, _, I1, rfl, ⟨_, row.filterMap fun i => xs[i]?, rfl, I.hok.fresh (Nat.le_refl _), ?_, rfl⟩, ⟨?_, _, row, .inr ⟨i, rfl, hrow, a⟩⟩, fun b' hb => ?_⟩⟩
    · unfold rows
      rw [List.getElem?_map, hl, hrow]
      rfl
    · obtain ⟨o1, e1, r1⟩ := hpl
      exact ⟨o1, d Pl o1 hne e1, r1⟩
    · have hb' : b' < s.heap.objs.size := by
        have e' : b' = it ∨ b' = Pl := by simpa using hb
        rcases e' with z | z
        · rw [z]; exact hil
        · rw [z]; exact hpll
      rw [upd_ne (Nat.ne_of_lt hb')]
      exact (hf b' hb).1
  done := by
    intro X hP hw hK hc i pins s σ H E I hf st hg
    subst hP hw hK
    obtain ⟨hpl, old, idx, st⟩ := st
    have hg : (rows xs r).length ≤ i := hg
    have hl := rv.length
    rw [rows_len, hl] at hg
    obtain ⟨f0, f1, f2, f3, f4, f5⟩ := hf it (by simp)
    have fin : ∀ h', Heap.ExtBut it s.heap h' → (none : Option Value) = none ∧ L2.Inv X pins σ H { s with heap := h' } := fun h' eb => ⟨rfl, I.turned (t' := s.toks) (fun b o hb q => eb b o hb q) f0 f1 f3 f4 f5⟩
    rcases st with ⟨rfl, hi⟩ | ⟨j, rfl, hj, hi⟩
    · have hr : us.length < r := by
        by_cases z : us.length < r
        · exact z
        · obtain ⟨l, el⟩ := cmb_head us.length 0 r (by omega)
          rw [el] at hg
          simp at hg
      rw [if_pos hr] at hi
      exact next_end (items := us) (I.ok.hd hc) hi (.inl rfl) hpl hne fin
    · have hn := run_at us.length (cmb 0 us.length r) j idx (by simpa using run_cmb us.length 0 r) hj
      rw [List.getElem?_eq_none hg] at hn
      exact next_end (I.ok.hd hc) hi (.inr ⟨rfl, hn⟩) hpl hne fin
  self := fun A i s Q E st h => by
    obtain ⟨hpl, old, idx, st⟩ := st
    rcases st with ⟨_, hi⟩ | ⟨_, _, _, hi⟩
    · exact iter_self hi h
    · exact iter_self hi h
end DC
end

section
set_option Elab.async false
set_option linter.all false
set_option maxRecDepth 100000
set_option maxHeartbeats 4000000
set_option autoImplicit false
namespace DL
open PySem PySem.Spec PyProof.Rows L2 DC
/-- combinations(xs, r), the name a global of the text -/
def iCombV (K : PySem.W.Frag) (ta : TA) : TI := fun σ H R => ta σ H fun vs H1 => ∃ a xs r, vs = [.ref a, .int r] ∧ (SqL K H1 a xs ∨ SqT K H1 a xs) ∧ 0 ≤ r ∧ r ≤ 2 ^ 20 ∧ R (Itc xs r.toNat) H1
theorem pi_comb {X : Cx} {tg a b : Expr} {ta : TA} {x : Str} {p pos : Pos} (hg : Gl X x) (hm : X.mg x = some (.type DC.CT)) (ha : PA X [a, b] ta) (hdb : (x == ("__debug__" : Str)) = false := by decide)
    (hs : starEach [a, b] X.env = (false, eval a X.env) :: starEach [b] X.env := by rfl) (hpl : (backTo pos (starEach [b] X.env)).any (·.1) = false := by rfl) : PI X tg (.Call (.Name x p) [a, b] [] pos) (iCombV X.K ta) := by
  refine ⟨fun pins s σ H R I h => ?_⟩
  refine Call_ (ld_glob I hg hm (PyProof.Rows.callWith_type1 (thn (ha.run pos pins s σ H _ I h) fun us s1 ⟨vs, H1, I1, r1, q1⟩ => ?_) hs hpl) hdb)
  obtain ⟨a, xs, r, ex, hq, h0, h1, q⟩ := q1
  subst ex
  cases r1 with
  | cons ra rr =>
    cases rr with
    | cons rb rr =>
      cases rr
      cases ra
      obtain ⟨t, rfl⟩ := rb
      have go : ∀ {T : String} {its : List Value} {o : Obj} {n : Nat}, (T = "list" ∨ T = "tuple") → s1.heap.get? a = some o → o.cls = .type T → o.data = .seq its.toArray n → Vals xs its → xs.length ≤ sizeLine →
          wpAny (model X.prog X.w) X.A (call (.type DC.CT) [.ref a, .int r t]) (fun v s1 => wpAny (model X.prog X.w) X.A (pyIter v) (PIE X pins σ tg R) X.xe s1) X.xe s1 := fun {T its o n} hT ho hc hd rv hz => by
        refine call_new hT ho hc hd (by rw [← rv.length]; exact hz) h0 h1 fun h1' h2 it P k1 hC hP hne l1 l2 k2 => ?_
        have I2 : L2.Inv X pins σ H1 { s1 with heap := h1' } := I1.kept (t' := s1.toks) k1
        have I3 : L2.Inv X pins σ H1 { s1 with heap := h2 } := I2.kept (t' := s1.toks) k2
        refine iter_self hC ?_
        refine ⟨it, [it, P], _, _, H1, rfl, I3, turn_c xs its r.toNat P it rv (by omega) hne, ⟨hP, _, [], .inl ⟨rfl, hC⟩⟩, fun b hb => ?_, q⟩
        have e' : b = it ∨ b = P := by simpa using hb
        have hle : h1'.objs.size ≤ b := by
          rcases e' with z | z
          · rw [z]; exact l1
          · rw [z]; exact l2
        exact I2.fpOk hle (I2.hok.fresh hle)
      rcases hq with hq | hq
      · obtain ⟨its, rv, pl, hz⟩ := I1.list hq
        obtain ⟨o, ho, hc, n, hd⟩ := pl.isList
        exact go (.inl rfl) ho hc hd rv hz
      · obtain ⟨its, rv, ⟨o, ho, hc, n, hd⟩, hz⟩ := I1.tuple hq
        exact go (.inr rfl) ho hc hd rv hz
def iComb (a : DAn) : Env → Sto → Res Src := fun env S => (a env S).bind fun ds S1 => match ds with
  | [x, .int r] => (match seqOf S1 x with
    | some es => if 0 ≤ r ∧ r ≤ 1048576 then .ok (.fix ((rows es r.toNat).map D.tup)) S1 else .bad
    | none => .bad)
  | _ => .bad
theorem rows_rep {K : PySem.W.Frag} {mg : Str → Option Value} {ι : Nm} {H : Hp} {vs : List V} {ds : List D} (l : RepL K mg ι H vs ds) {r i : Nat} {row : List D} (e : (rows ds r)[i]? = some row) : ∃ vrow, (rows vs r)[i]? = some vrow ∧ RepL K mg ι H vrow row := by
  unfold rows at e ⊢
  rw [l.length]
  rw [List.getElem?_map] at e ⊢
  obtain ⟨idx, h1, rfl⟩ := Option.map_eq_some_iff.mp e
  rw [h1]
  exact ⟨_, rfl, arr_rep l idx⟩
theorem itok_c {K : PySem.W.Frag} {mg : Str → Option Value} {ι : Nm} {H : Hp} {vs : List V} {ds : List D} (l : RepL K mg ι H vs ds) {r : Nat} : ItOk K mg ι H (Itc vs r) (.fix ((rows ds r).map D.tup)) := fun ι2 H2 S m hS i => by
  have l2 := RepL.mo m _ _ l
  refine ⟨fun d e => ?_, fun e => ?_⟩
  · have e := of_it e
    rw [List.getElem?_map] at e
    obtain ⟨row, h1, rfl⟩ := Option.map_eq_some_iff.mp e
    obtain ⟨vrow, h2, lr⟩ := rows_rep l2 h1
    refine ⟨(List.getElem?_eq_some_iff.mp h2).1, fun x H' y => ?_⟩
    obtain ⟨T, row', rfl, hT, h3, rfl⟩ := y
    rw [h2] at h3
    cases h3
    exact ⟨ι2, Ext.new hT, hS.new hT, .tup upd_same (hS.fresh hT) (lr.ext (Ext.new hT))⟩
  · have e := of_stop e
    rw [List.getElem?_map] at e
    have e : (rows ds r)[i]? = none := by
      cases z : (rows ds r)[i]? with
      | none => rfl
      | some _ => rw [z] at e; cases e
    have := List.getElem?_eq_none_iff.mp e
    show (rows vs r).length ≤ i
    rw [rows_len, l.length, ← rows_len]
    exact this
theorem si_comb {X : Cx} {W : WX} {tg a b : Expr} {cs : DAn} {x : Str} {p pos : Pos} (hm : X.mg x = some (.type DC.CT)) (ha : SA X W [a, b] cs) (hg : Gl X x := by rfl) (hdb : (x == ("__debug__" : Str)) = false := by decide)
    (hs : starEach [a, b] X.env = (false, eval a X.env) :: starEach [b] X.env := by rfl) (hpl : (backTo pos (starEach [b] X.env)).any (·.1) = false := by rfl) : SI X W tg (.Call (.Name x p) [a, b] [] pos) (iComb cs) := PI.weak (pi_comb hg hm ha hdb hs hpl) fun σ H R h => by
  obtain ⟨ι, env, S, hS, hE, q⟩ := h
  refine tDA.seq hS hE q fun ι1 H1 vs ds S1 _ x s _ r q => ?_
  split at q
  · rename_i d z _
    obtain ⟨v, u, rfl, r1, r2⟩ := r.two
    obtain rfl := r2.int_
    cases e : seqOf S1 d with
    | none => rw [e] at q; exact q.elim
    | some es =>
      rw [e] at q
      simp only at q
      split at q
      · rename_i hb
        obtain ⟨a, vs, rfl, hq, l⟩ := s.seq r1 e
        exact ⟨a, vs, z, rfl, hq, hb.1, by omega, Aft.done q s (itok_c l)⟩
      · exact q.elim
  · exact q.elim
end DL
end

section
set_option Elab.async false
set_option linter.all false
set_option maxRecDepth 100000
set_option maxHeartbeats 4000000
set_option autoImplicit false
/-! what the printed walks take -/
namespace DL
open PySem PySem.Spec PyProof.Rows L2
theorem roomy {k : Nat} {A : Around} (r : Room k A) : A.units + 65 < cLine := by have := r.un; omega
theorem roomy4 {k : Nat} {A : Around} (r : Room k A) : A.units + 64 < cLine := by have := r.un; omega
theorem roomy6 {k : Nat} {A : Around} (r : Room k A) : A.units + 66 < cLine := by have := r.un; omega
/-- a def of the text that keeps F's promise -/
structure Has (g : Bool) (P : Program) (w : World) (K : PySem.W.Frag) (mg : Str → Option Value) (base : Heap) (k : Nat) (x : Str) (st : Stmt) (ps : List Str) (F : DFn) : Prop where
  ex : ∃ f fd, mg x = some (.ref f) ∧ FunD K x x (defArgs st) (defBody st) (defScope st) [] [] f fd ∧ FnB g P w K mg base (L2.CX P w) k f fd ps (spD K mg F)
section
variable {g : Bool} {X : Cx} {W : WX} {e : Expr} {es : List Expr} {x : Str} {p pos : Pos} {cs ck : DAn} {k j : Nat} {st : Stmt} {ps ks : List Str} {F : DFn} {kws : List Keyword} {perm : List Nat} {n : Nat}
/-- how a call of positional arguments binds -/
def BindP (x : Str) (st : Stmt) (ps : List Str) : Prop := ∀ (kV doc pm : Value) (an : Option Addr) (cdv ct : Value) (us : List Value), us.length = ps.length → bindArgs (PySem.W.fnOf x x (defArgs st) (defBody st) (defScope st) .none kV doc pm an cdv ct) ⟨us, []⟩ = pure (ps.zip us)
theorem se_callh (gX : Go X W) (hF : Has g X.prog X.w X.K X.mg X.base k x st ps F) (hr : Room j X.A) (hj : k ≤ j) (hgd : g = true → X.A.guards = some []) (hb : BindP x st ps) (ha : SA X W (e :: es) cs)
    (hg : Gl X x := by rfl) (hd : (x == ("__debug__" : Str)) = false := by decide) (hs : starEach (e :: es) X.env = (false, eval e X.env) :: starEach es X.env := by rfl) (hpl : (backTo pos (starEach es X.env)).any (·.1) = false := by rfl) :
    SE X W (.Call (.Name x p) (e :: es) [] pos) (cApp F cs) := by
  obtain ⟨f, fd, hm, FD, hB⟩ := hF.ex
  exact se_callb gX hB (hr.mono hj) hgd hm FD.kp (FD.bindsN hb) ha hg hd hs hpl
theorem se_callh0 (gX : Go X W) (hF : Has g X.prog X.w X.K X.mg X.base k x st ps F) (hr : Room j X.A) (hj : k ≤ j) (hgd : g = true → X.A.guards = some []) (hb : BindP x st ps)
    (hg : Gl X x := by rfl) (hd : (x == ("__debug__" : Str)) = false := by decide) : SE X W (.Call (.Name x p) [] [] pos) (cApp F cNil) := by
  obtain ⟨f, fd, hm, FD, hB⟩ := hF.ex
  exact se_callb0 gX hB (hr.mono hj) hgd hm FD.kp (FD.bindsN hb) hg hd
def BindK (x : Str) (st : Stmt) (ps ks : List Str) (n : Nat) (perm : List Nat) : Prop := ∀ (kV doc pm : Value) (an : Option Addr) (cdv ct : Value) (us ws : List Value), us.length = n → ws.length = ks.length → bindArgs (PySem.W.fnOf x x (defArgs st) (defBody st) (defScope st) .none kV doc pm an cdv ct) ⟨us, ks.zip ws⟩ = pure (ps.zip (arr perm (us ++ ws)))
theorem kwb_of {K : PySem.W.Frag} {f : Addr} {fd : FuncData} (FD : FunD K x x (defArgs st) (defBody st) (defScope st) [] [] f fd) (h : BindK x st ps ks n perm) : KwB K fd ps ks n perm := by
  obtain ⟨oc, od, dV, kV, doc, pm, an, cdv, ct, osl, rfl, lk, hcd, hD, hK⟩ := FD.ex
  rcases hD with ⟨_, rfl⟩ | ⟨e, _⟩
  · exact fun s us ws _ l1 l2 => .of_eq (h kV doc pm an cdv ct us ws l1 l2)
  · exact absurd rfl e
theorem se_callkh (gX : Go X W) (n : Nat) (ks : List Str) (perm : List Nat) (hF : Has g X.prog X.w X.K X.mg X.base k x st ps F) (hr : Room j X.A) (hj : k ≤ j) (hgd : g = true → X.A.guards = some []) (hb : BindK x st ps ks n perm) (ha : SA X W (e :: es) cs) (hkw : SK X W kws ck)
    (hg : Gl X x := by rfl) (hall : (backToKw pos (keywordEach kws X.env)).all (·.1.isSome) = true := by rfl) (hks : (backToKw pos (keywordEach kws X.env)).filterMap (·.1) = ks := by rfl)
    (hd : (x == ("__debug__" : Str)) = false := by decide) (he : starEach (e :: es) X.env = (false, eval e X.env) :: starEach es X.env := by rfl)
    (hpl : ((backTo pos (starEach (e :: es) X.env)).any (·.1) || (backToKw pos (keywordEach kws X.env)).any (·.1.isNone)) = false := by rfl) :
    SE X W (.Call (.Name x p) (e :: es) kws pos) (cKw F n ks.length perm cs ck) := by
  obtain ⟨f, fd, hm, FD, hB⟩ := hF.ex
  exact se_callk gX n ks perm hB (hr.mono hj) hgd hm FD.kp (kwb_of FD hb) ha hkw hg hall hks hd he hpl
theorem se_callkh0 (gX : Go X W) (ks : List Str) (perm : List Nat) (hF : Has g X.prog X.w X.K X.mg X.base k x st ps F) (hr : Room j X.A) (hj : k ≤ j) (hgd : g = true → X.A.guards = some []) (hb : BindK x st ps ks 0 perm) (hkw : SK X W kws ck)
    (hg : Gl X x := by rfl) (hall : (backToKw pos (keywordEach kws X.env)).all (·.1.isSome) = true := by rfl) (hks : (backToKw pos (keywordEach kws X.env)).filterMap (·.1) = ks := by rfl)
    (hd : (x == ("__debug__" : Str)) = false := by decide)
    (hpl : ((backTo pos (starEach [] X.env)).any (·.1) || (backToKw pos (keywordEach kws X.env)).any (·.1.isNone)) = false := by rfl) :
    SE X W (.Call (.Name x p) [] kws pos) (cKw F 0 ks.length perm cNil ck) := by
  obtain ⟨f, fd, hm, FD, hB⟩ := hF.ex
  exact se_callk0 gX ks perm hB (hr.mono hj) hgd hm FD.kp (kwb_of FD hb) hkw hg hall hks hd hpl
/-- what never runs -/
theorem ss_bad : SS X W st (fun _ _ => .bad) := ⟨fun pins s σ H D I h => by
  obtain ⟨ι, env, S, hS, hE, q⟩ := h
  exact q.elim⟩
theorem sss_bad {sts : List Stmt} : SSs X W sts (fun _ _ => .bad) := ⟨fun pins s σ H D I h => by
  obtain ⟨ι, env, S, hS, hE, q⟩ := h
  exact q.elim⟩
theorem se_bad : SE X W e (fun _ _ => .bad) := ⟨fun pins s σ H D I h => by
  obtain ⟨ι, env, S, hS, hE, q⟩ := h
  exact q.elim⟩

/-! ### + and * of any kind -/
def oAddG (x y : D) (S : Sto) : Res D := match strictL S x, strictL S y with
  | some xs, some ys => if xs.length + ys.length ≤ LIM then .ok (.lst (xs ++ ys)) S else .bad
  | none, none => oAdd x y S
  | _, _ => .bad
def rAddG (X : Cx) : R2 := fun x y H Q => (rI0 (fun i j => .int (i + j)) x y H Q ∨ rCatA X.K x y H Q ∨ ∃ i j, x = .str i ∧ y = .str j ∧ i.length + j.length ≤ sizeLine ∧ Q (.str (i ++ j)) H) ∨ rCat x y H Q
theorem op_addG : OpR X (binaryOp .Add) (rAddG X) := OpR.or op_addD op_cat
theorem p_addG : P2 X.K X.mg (rAddG X) oAddG := by
  intro ι H S x y v u We Q hS rx ry q
  unfold oAddG at q
  cases e : strictL S x with
  | some xs =>
    cases e' : strictL S y with
    | some ys =>
      rw [e, e'] at q
      simp only at q
      split at q
      · rename_i hl
        obtain ⟨p, vs, rfl, hq, l⟩ := hS.strict rx e
        obtain ⟨p', us, rfl, hq', l'⟩ := hS.strict ry e'
        exact .inr ⟨p, p', vs, us, rfl, rfl, hq, hq', by rw [l.length, l'.length, lim_eq]; exact hl, fun t ht => q ι _ _ (Ext.new ht) (hS.new ht) (.lst upd_same (hS.fresh ht) ((l.append l').ext (Ext.new ht)))⟩
      · exact q.elim
    | none => rw [e, e'] at q; exact q.elim
  | none =>
    cases e' : strictL S y with
    | some ys => rw [e, e'] at q; exact q.elim
    | none =>
      rw [e, e'] at q
      exact .inl (p_add ι H S x y v u We Q hS rx ry q)

/-! ### slices of any kind -/
def cSlG (c : DEn) (l h : DPn) : DEn := fun env S => (c env S).bind fun x S1 => (l env S1).bind fun lo S2 => (h env S2).bind fun hi S3 => match listOf S3 x with
  | some ds => .ok (.lst (cutD ds lo hi)) S3
  | none => fSl x lo hi S3
end
end DL
end

section
set_option Elab.async false
set_option linter.all false
set_option maxRecDepth 100000
set_option maxHeartbeats 4000000
set_option autoImplicit false
namespace DL
open PySem PySem.Spec PyProof.Rows L2
section
variable {X : Cx} {W : WX} {a b c e o i : Expr} {es : List Expr} {pos p2 apos cpos p tpos : Pos} {ca cb ce co ci : DEn} {cs : DAn} {x : Str}
theorem se_slg {lo hi : Option Expr} {cl ch : DPn} (ha : SE X W a ca) (hl : SO X W lo cl) (hh : SO X W hi ch) : SE X W (.Subscript a (.Slice lo hi none p2) pos) (cSlG ca cl ch) := PE.weak (pe_slice ((sl_tupA.or sl_str).or sl_list) ha hl hh) fun σ H Q h => by
  obtain ⟨ι, env, S, hS, hE, q⟩ := h
  refine tD.seq hS hE q fun ι1 H1 v d S1 _ x1 s1 e1 r1 q1 => ?_
  refine tDP.seq s1 e1 q1 fun ι2 H2 i S2 _ x2 s2 e2 q2 => ?_
  refine tDP.seq s2 e2 q2 fun ι3 H3 j S3 _ x3 s3 e3 q3 => ?_
  have r3 := (r1.ext x2).ext x3
  cases el : listOf S3 d with
  | some ds =>
    rw [el] at q3
    obtain ⟨p, vs, rfl, hq, l⟩ := s3.list r3 el
    exact .inr ⟨p, vs, rfl, hq, fun t ht => q3 ι3 _ _ (Ext.new ht) (s3.new ht) (.lst upd_same (s3.fresh ht) ((cut_rep l i j).ext (Ext.new ht)))⟩
  | none =>
    rw [el] at q3
    have q3 : Aft X.K X.mg (RepV X.K X.mg) (fun cls dd H' => W cls dd σ H') ι3 H3 (fSl d i j S3) Q := q3
    refine .inl ?_
    cases d with
    | tup ds =>
      obtain ⟨p, vs, rfl, hq, l⟩ := r3.sqT
      refine .inl ⟨p, vs, rfl, hq, fun e => ?_, fun _ p hp => ?_⟩
      · refine Aft.done q3 s3 ?_
        have z : cutD ds i j = ds := by
          unfold cutD
          rw [← l.length, e.1, e.2, List.drop_zero, Nat.sub_zero, l.length, List.take_length]
        rw [z]
        exact r3
      · exact q3 ι3 _ _ (Ext.new hp) (s3.new hp) (.tup upd_same (s3.fresh hp) ((cut_rep l i j).ext (Ext.new hp)))
    | str z =>
      cases r3
      have q3 : Aft X.K X.mg (RepV X.K X.mg) (fun cls dd H' => W cls dd σ H') ι3 H3 (if z.length ≤ LIM then .ok (.str (cutS z i j)) S3 else .bad) Q := q3
      split at q3
      · rename_i hl
        exact .inr ⟨z, rfl, by rw [lim_eq]; exact hl, Aft.done q3 s3 (.str _)⟩
      · exact q3.elim
    | _ => exact q3.elim
/-! ### * of any kind -/
def rMulG (X : Cx) : R2 := fun x y H Q => (rMulD X x y H Q ∨ rRepT X.K x y H Q) ∨ rRep x y H Q
theorem op_mulG : OpR X (binaryOp .Mult) (rMulG X) := OpR.or (OpR.or op_mulD op_repT) op_rep
def oMulG (x y : D) (S : Sto) : Res D := match strictL S x with
  | some xs => (match y with
    | .int k => if k.natAbs < 2 ^ 62 ∧ xs.length * k.toNat ≤ LIM then .ok (.lst (List.replicate k.toNat xs).flatten) S else .bad
    | _ => .bad)
  | none => (match x, y with
    | .int i, .int j => if mulB i j = true then .ok (.int (i * j)) S else .bad
    | .tup xs, .int k => if xs ≠ [] ∧ 2 ≤ k ∧ k ≤ 1000 ∧ xs.length ≤ 1000 then .ok (.tup (List.replicate k.toNat xs).flatten) S else .bad
    | _, _ => .bad)
theorem p_mulG : P2 X.K X.mg (rMulG X) oMulG := by
  intro ι H S x y v u We Q hS rx ry q
  unfold oMulG at q
  cases e : strictL S x with
  | some xs =>
    rw [e] at q
    cases y with
    | int k =>
      cases ry
      simp only at q
      split at q
      · rename_i hl
        obtain ⟨p, vs, rfl, hq, l⟩ := hS.strict rx e
        exact .inr ⟨p, k, vs, rfl, rfl, hq, by omega, by omega, by rw [l.length, lim_eq]; exact hl.2, fun t ht => q ι _ _ (Ext.new ht) (hS.new ht) (.lst upd_same (hS.fresh ht) ((l.repl _).ext (Ext.new ht)))⟩
      · exact q.elim
    | _ => exact q.elim
  | none =>
    rw [e] at q
    simp only at q
    cases x with
    | int i =>
      cases y with
      | int j => exact .inl (.inl (p_mul ι H S (.int i) (.int j) v u We Q hS rx ry q))
      | _ => exact q.elim
    | tup xs =>
      cases y with
      | int k =>
        cases ry
        simp only at q
        split at q
        · rename_i hl
          obtain ⟨p, vs, rfl, hq, l⟩ := rx.sqT
          refine .inl (.inr ⟨p, k, vs, rfl, rfl, hq, ?_, hl.2.1, hl.2.2.1, by rw [l.length]; exact hl.2.2.2, fun t ht => q ι _ _ (Ext.new ht) (hS.new ht) (.tup upd_same (hS.fresh ht) ((l.repl _).ext (Ext.new ht)))⟩)
          intro z
          subst z
          cases l
          exact hl.1 rfl
        · exact q.elim
      | _ => exact q.elim
    | _ => exact q.elim
/-! ### sorted(x, reverse=True) -/
theorem sf_sortR {kpos pc : Pos} {kk : Nat} {r : Bool} (hu : Roomy X) (hm : X.mg "sorted" = none) (ha : SA X W [e] cs) (hg : Gl X "sorted" := by rfl)
    (he : backTo pos (starEach [e] X.env) = (false, eval e X.env) :: backTo pos (starEach [] X.env) := by rfl) (hpl : (backTo pos (starEach [e] X.env)).any (·.1) = false := by rfl)
    (hall : (backToKw pos (keywordEach [⟨some "reverse", .Constant (.bool r) kk pc, kpos⟩] X.env)).all (·.1.isSome) = true := by rfl) (hnone : (backToKw pos (keywordEach [⟨some "reverse", .Constant (.bool r) kk pc, kpos⟩] X.env)).any (·.1.isNone) = false := by rfl) (hks : (backToKw pos (keywordEach [⟨some "reverse", .Constant (.bool r) kk pc, kpos⟩] X.env)).filterMap (·.1) = [Str.ofString "reverse"] := by rfl) :
    SF X W (.Call (.Name "sorted" p) [e] [⟨some "reverse", .Constant (.bool r) kk pc, kpos⟩] pos) (cAppF (fSorted r) cs) :=
  PE.weak (pe_callBK (cr_sortR X.mg hu) hg hm (by decide +kernel) ha (pk_cons pe_bl pk_nil) (by decide) (by decide) he hpl hall hnone hks) fun σ H Q h => by
    obtain ⟨ι, env, S, hS, hE, q⟩ := h
    refine tDA.seqF hS hE q fun ι1 H1 vs ds S1 _ x1 s1 e1 r1 q1 => ?_
    exact ⟨r, rfl, p_sort ι1 H1 S1 ds vs _ Q s1 r1 q1⟩
/-! ### methods of lists -/
theorem se_append (ho : SE X W o co) (he : SE X W e ce)
    (hbase : attributeBase o (Str.ofString "append") X.env (eval o X.env) = eval o X.env := by rfl)
    (hfew : ((backTo cpos (starEach [e] X.env)).all (fun x => !x.1) && (backToKw cpos (keywordEach [] X.env)).all (fun x => x.1.isSome)
      && decide ([e].length + ([] : List Keyword).length + (if ([] : List Keyword).isEmpty then 0 else 1) < 30)) = true := by rfl)
    (hline : (apos.endLine == cpos.line) = true := by rfl) (hs : starEach [e] X.env = (false, eval e X.env) :: starEach [] X.env := by rfl) (hplain : (backTo cpos (starEach [] X.env)).any (·.1) = false := by rfl) :
    SE X W (.Call (.Attribute o (Str.ofString "append") apos) [e] [] cpos) (cMeth fAppend co (cCons ce cNil)) := se_meth PySem.F.slot_list_append PySem.F.type_list_append mt_append p_append ho (sa_one he hs) hbase hfew hline hs hplain
theorem se_extend (ho : SE X W o co) (he : SE X W e ce)
    (hbase : attributeBase o (Str.ofString "extend") X.env (eval o X.env) = eval o X.env := by rfl)
    (hfew : ((backTo cpos (starEach [e] X.env)).all (fun x => !x.1) && (backToKw cpos (keywordEach [] X.env)).all (fun x => x.1.isSome)
      && decide ([e].length + ([] : List Keyword).length + (if ([] : List Keyword).isEmpty then 0 else 1) < 30)) = true := by rfl)
    (hline : (apos.endLine == cpos.line) = true := by rfl) (hs : starEach [e] X.env = (false, eval e X.env) :: starEach [] X.env := by rfl) (hplain : (backTo cpos (starEach [] X.env)).any (·.1) = false := by rfl) :
    SE X W (.Call (.Attribute o (Str.ofString "extend") apos) [e] [] cpos) (cMeth fExtend co (cCons ce cNil)) := se_meth PySem.F.slot_list_extend PySem.F.type_list_extend mt_extend p_extend ho (sa_one he hs) hbase hfew hline hs hplain
theorem se_pop (ho : SE X W o co)
    (hbase : attributeBase o (Str.ofString "pop") X.env (eval o X.env) = eval o X.env := by rfl) (hline : (apos.endLine == cpos.line) = true := by rfl) :
    SE X W (.Call (.Attribute o (Str.ofString "pop") apos) [] [] cpos) (cMeth fPop co cNil) := se_meth0 PySem.F.slot_list_pop PySem.F.type_list_pop mt_pop p_pop ho hbase hline
end
end DL
namespace DL
open PySem PySem.Spec PyProof.Rows L2
def celLst (S : Sto) (k : Nat) : Option (List D) := match S[k]? with
  | some (.lst ds) => some ds
  | _ => none
/-- (a, b, ..) = a row of n -/
def gTpn (n : Nat) (gs : DGs) : DGn := fun d env S => match d with
  | .tup ds => if ds.length = n then gs ds env S else .bad
  | .lst ds => if ds.length = n then gs ds env S else .bad
  | .cel k => (match celLst S k with
    | some ds => if ds.length = n then gs ds env S else .bad
    | none => .bad)
  | _ => .bad
theorem celLst_at {S : Sto} {k : Nat} {ds : List D} (h : celLst S k = some ds) : S[k]? = some (.lst ds) := by
  unfold celLst at h
  split at h
  · cases h
    assumption
  · cases h
section
variable {X : Cx} {W : WX} {vs : List Nat} {es : List Expr} {pos : Pos} {gs : DGs}
theorem sg_tpn (gX : Go X W) {k : Nat} (h : SGs X W es gs) (n : Nat) (hn : (assignEach es X.env).length = n := by rfl) (hst : (assignEach es X.env).findIdx? (·.1) = none := by rfl) : SG X W (.Tuple es k pos) (gTpn n gs) := PG.weak (PG.or (pg_tup gX.calm h hn hst) (pg_lst gX.calm h hn hst)) fun v σ H Q h => by
  obtain ⟨ι, env, S, d, hS, hE, hV, q⟩ := h
  cases d with
  | tup ds =>
    obtain ⟨a, vs, rfl, hq, l⟩ := hV.sqT
    have q : AftS X.K X.mg W ι H (if ds.length = n then gs ds env S else .bad) { nx := Q, rt := fun _ _ => False } := q
    split at q
    · rename_i hz
      exact .inl ⟨a, vs, rfl, hq, l.length.trans hz, ι, env, S, ds, hS, hE, l, q⟩
    · exact q.elim
  | lst ds =>
    obtain ⟨a, vs, rfl, hq, l⟩ := hV.sqL
    have q : AftS X.K X.mg W ι H (if ds.length = n then gs ds env S else .bad) { nx := Q, rt := fun _ _ => False } := q
    split at q
    · rename_i hz
      exact .inr ⟨a, vs, rfl, .inl (.inl hq), l.length.trans hz, ι, env, S, ds, hS, hE, l, q⟩
    · exact q.elim
  | cel m =>
    have q : AftS X.K X.mg W ι H (match celLst S m with
      | some ds => if ds.length = n then gs ds env S else .bad
      | none => .bad) { nx := Q, rt := fun _ _ => False } := q
    cases e : celLst S m with
    | none => rw [e] at q; exact q.elim
    | some ds =>
      rw [e] at q
      obtain ⟨a, vs, rfl, hn', hH, l⟩ := celAt hS hV (celLst_at e)
      have q : AftS X.K X.mg W ι H (if ds.length = n then gs ds env S else .bad) { nx := Q, rt := fun _ _ => False } := q
      split at q
      · rename_i hz
        exact .inr ⟨a, vs, rfl, .inl (.inl hH), l.length.trans hz, ι, env, S, ds, hS, hE, l, q⟩
      · exact q.elim
  | _ => exact q.elim
theorem calm_tpn {n : Nat} (k : Calms gs) : Calm (gTpn n gs) := fun d env S => by
  have key : ∀ ds : List D, (if ds.length = n then gs ds env S else .bad) = .bad ∨ ∃ env', (if ds.length = n then gs ds env S else .bad) = .nx env' S := fun ds => by
    split
    · exact k ds env S
    · exact .inl rfl
  cases d with
  | tup ds => exact key ds
  | lst ds => exact key ds
  | cel m =>
    show (match celLst S m with
      | some ds => if ds.length = n then gs ds env S else .bad
      | none => .bad) = RS.bad ∨ _
    cases e : celLst S m with
    | none => exact .inl rfl
    | some ds =>
      rcases key ds with z | ⟨env', z⟩
      · exact .inl z
      · exact .inr ⟨env', by simp only [gTpn, e]; exact z⟩
  | _ => exact .inl rfl
theorem sgv_tpn (hc : X.calm = true) {k : Nat} (h : SGsv X vs es gs) (n : Nat) (hn : (assignEach es X.env).length = n := by rfl) (hst : (assignEach es X.env).findIdx? (·.1) = none := by rfl) : SGv X vs (.Tuple es k pos) (gTpn n gs) := PG.weak (PG.or (pg_tup hc h hn hst) (pg_lst hc h hn hst)) fun v σ H Q h => by
  obtain ⟨ι, env, S, d, hS, hE, hV, q⟩ := h
  have key : ∀ ds : List D, (match (if ds.length = n then gs ds env S else .bad) with
      | .nx env' S' => ∀ σ', S' = S → RepE X.K X.mg ι H σ' env' → wipe σ' vs = wipe σ vs → Q σ' H
      | _ => False) → ds.length = n ∧ (match gs ds env S with
      | .nx env' S' => ∀ σ', S' = S → RepE X.K X.mg ι H σ' env' → wipe σ' vs = wipe σ vs → Q σ' H
      | _ => False) := fun ds q => by
    by_cases hz : ds.length = n
    · rw [if_pos hz] at q
      exact ⟨hz, q⟩
    · rw [if_neg hz] at q
      exact q.elim
  cases d with
  | tup ds =>
    obtain ⟨a, us, rfl, hq, l⟩ := hV.sqT
    obtain ⟨hz, q⟩ := key ds q
    exact .inl ⟨a, us, rfl, hq, l.length.trans hz, ι, env, S, ds, hS, hE, l, q⟩
  | lst ds =>
    obtain ⟨a, us, rfl, hq, l⟩ := hV.sqL
    obtain ⟨hz, q⟩ := key ds q
    exact .inr ⟨a, us, rfl, .inl (.inl hq), l.length.trans hz, ι, env, S, ds, hS, hE, l, q⟩
  | cel m =>
    cases e : celLst S m with
    | none => simp only [gTpn, e] at q
    | some ds =>
      simp only [gTpn, e] at q
      obtain ⟨a, us, rfl, hn', hH, l⟩ := celAt hS hV (celLst_at e)
      obtain ⟨hz, q⟩ := key ds q
      exact .inr ⟨a, us, rfl, .inl (.inl hH), l.length.trans hz, ι, env, S, ds, hS, hE, l, q⟩
  | _ => exact q.elim
end
theorem blk_ok {X : Cx} (N : List Str) (sc : Scope) {scope : Scope} {own : List (Str × Nat)} (hN : X.N = N) (hs : X.env.scope = sc) (h : blkC N sc scope own = true) : BlkOk X.N X.env.scope scope own := by
  rw [hN, hs]
  exact blkOk_by h
end DL
namespace DL
open PySem PySem.Spec PyProof.Rows L2
section
variable {X : Cx} {W : WX} {elt tg iter : Expr} {ifs : List Expr} {scope : Scope} {own : List (Str × Nat)} {pos py spos : Pos} {ci : Env → Sto → Res Src} {g : DGn} {t : DTn} {e : DEn} {y : Str}
theorem sf_lcg (gX : Go X W) (own : List (Str × Nat)) (hi : SI X W tg iter ci) (ok : BlkOk X.N X.env.scope scope own) (cg : Calm g)
    (hg : ∀ (s : Shared) (H : Hp) (C : Addr) (cl : List (Str × Addr)) (fp : List Addr), Go (X.blk s H scope (compEnvC scope cl C X.env) fp) W0 → SGv (X.blk s H scope (compEnvC scope cl C X.env) fp) (own.map (·.2)) tg g)
    (ht : ∀ (s : Shared) (H : Hp) (C : Addr) (cl : List (Str × Addr)) (fp : List Addr), Go (X.blk s H scope (compEnvC scope cl C X.env) fp) W0 → STs (X.blk s H scope (compEnvC scope cl C X.env) fp) W0 ifs t)
    (he : ∀ (s : Shared) (H : Hp) (C : Addr) (cl : List (Str × Addr)) (fp : List Addr), Go (X.blk s H scope (compEnvC scope cl C X.env) fp) W0 → SE (X.blk s H scope (compEnvC scope cl C X.env) fp) W0 elt e) (hs : ∀ x, foldedSetIterable iter X.env x = pure x := by intro _; rfl) :
    SF X W (.ListComp elt [⟨tg, iter, ifs, 0⟩] scope pos) (cLc ci g t e (own.map (·.2))) := sf_lc gX own hi ok cg (fun s H C cl fp => hg s H C cl fp (go_blk gX)) (fun s H C cl fp => ht s H C cl fp (go_blk gX)) (fun s H C cl fp => he s H C cl fp (go_blk gX)) hs
theorem ss_setLcg (gX : Go X W) (i : Nat) (own : List (Str × Nat)) (hi : SI X W tg iter ci) (ok : BlkOk X.N X.env.scope scope own) (cg : Calm g)
    (hg : ∀ (s : Shared) (H : Hp) (C : Addr) (cl : List (Str × Addr)) (fp : List Addr), Go (X.blk s H scope (compEnvC scope cl C X.env) fp) W0 → SGv (X.blk s H scope (compEnvC scope cl C X.env) fp) (own.map (·.2)) tg g)
    (ht : ∀ (s : Shared) (H : Hp) (C : Addr) (cl : List (Str × Addr)) (fp : List Addr), Go (X.blk s H scope (compEnvC scope cl C X.env) fp) W0 → STs (X.blk s H scope (compEnvC scope cl C X.env) fp) W0 ifs t)
    (he : ∀ (s : Shared) (H : Hp) (C : Addr) (cl : List (Str × Addr)) (fp : List Addr), Go (X.blk s H scope (compEnvC scope cl C X.env) fp) W0 → SE (X.blk s H scope (compEnvC scope cl C X.env) fp) W0 elt e) (hy : X.N[i]? = some y := by rfl) (hyl : X.env.scope.names.lookup y = some .local := by rfl)
    (hsw : swapsWith (.ListComp elt [⟨tg, iter, ifs, 0⟩] scope pos) (some (.Name y py)) spos.line X.env = pure true := by exact sw_true rfl rfl rfl rfl) (hs : ∀ x, foldedSetIterable iter X.env x = pure x := by intro _; rfl) :
    SS X W (.Assign [.Name y py] (.ListComp elt [⟨tg, iter, ifs, 0⟩] scope pos) spos) (sSet i (cVal (cLc ci g t e (own.map (·.2))))) := ss_setLc gX i own hi ok cg (fun s H C cl fp => hg s H C cl fp (go_blk gX)) (fun s H C cl fp => ht s H C cl fp (go_blk gX)) (fun s H C cl fp => he s H C cl fp (go_blk gX)) hy hyl hsw hs
theorem ss_setLcBg (gX : Go X W) (i : Nat) (own : List (Str × Nat)) (hi : SI X W tg iter ci) (ok : BlkOk X.N X.env.scope scope own) (cg : Calm g)
    (hg : ∀ (s : Shared) (H : Hp) (C : Addr) (cl : List (Str × Addr)) (fp : List Addr), Go (X.blk s H scope (compEnvC scope cl C X.env) fp) W0 → SGv (X.blk s H scope (compEnvC scope cl C X.env) fp) (own.map (·.2)) tg g)
    (ht : ∀ (s : Shared) (H : Hp) (C : Addr) (cl : List (Str × Addr)) (fp : List Addr), Go (X.blk s H scope (compEnvC scope cl C X.env) fp) W0 → STs (X.blk s H scope (compEnvC scope cl C X.env) fp) W0 ifs t)
    (he : ∀ (s : Shared) (H : Hp) (C : Addr) (cl : List (Str × Addr)) (fp : List Addr), Go (X.blk s H scope (compEnvC scope cl C X.env) fp) W0 → SE (X.blk s H scope (compEnvC scope cl C X.env) fp) W0 elt e) (hy : X.N[i]? = some y := by rfl) (hyl : X.env.scope.names.lookup y = some .local := by rfl)
    (hsw : swapsWith (.ListComp elt [⟨tg, iter, ifs, 0⟩] scope pos) (some (.Name y py)) spos.line X.env = pure true := by exact sw_true rfl rfl rfl rfl) (hs : ∀ x, foldedSetIterable iter X.env x = pure x := by intro _; rfl) :
    SS X W (.Assign [.Name y py] (.ListComp elt [⟨tg, iter, ifs, 0⟩] scope pos) spos) (sSet i (cBox (cLc ci g t e (own.map (·.2))))) := ss_setLcB gX i own hi ok cg (fun s H C cl fp => hg s H C cl fp (go_blk gX)) (fun s H C cl fp => ht s H C cl fp (go_blk gX)) (fun s H C cl fp => he s H C cl fp (go_blk gX)) hy hyl hsw hs
end
end DL
namespace DL
open PySem PySem.Spec PyProof.Rows L2
theorem cx_no {P : Program} {w : World} {H : Hp} {s s' : Shared} {e : Value} (h : L2.CX P w [] H s (fun _ _ _ => False) e s') : False := by
  obtain ⟨_, _, _, _, _, _, _, _, _, _, _, _, z⟩ := h
  exact z
theorem fd_eq {K : PySem.W.Frag} {x qual x' qual' : Str} {params params' : Arguments} {body body' : List Stmt} {scope scope' : Scope} {dvs dvs' : List V} {kws kws' : List (Str × V)} {f : Addr} {fd fd' : FuncData}
    (h : FunD K x qual params body scope dvs kws f fd) (h' : FunD K x' qual' params' body' scope' dvs' kws' f fd') : fd = fd' := by
  obtain ⟨_, _, _, _, _, _, _, _, _, _, _, l, _⟩ := h.ex
  obtain ⟨_, _, _, _, _, _, _, _, _, _, _, l', _⟩ := h'.ex
  rw [l] at l'
  injection l' with l'
  injection l' with _ _ l'
  injection l' with l'
end DL
end

section
set_option Elab.async false
set_option linter.all false
set_option maxRecDepth 100000
set_option maxHeartbeats 4000000
set_option autoImplicit false
/-! reckoning with readings -/
namespace DL
open PySem (PyData Str)
section
variable (env : Env) (S : Sto) (i j : Nat) (d x y : D) (ds : List D) (c ca cb cc : DEn) (cs cs2 : DAn) (t ta tb : DTn) (f g : D → D → Sto → Res D) (u : D → Sto → Res D) (F : DFn) (s1 s2 : DSn)
@[simp] theorem cVar_ap : cVar i env S = match env[i]? with
  | some (some d) => .ok d S
  | _ => .bad := (rfl)
@[simp] theorem cK_ap : cK d env S = .ok d S := (rfl)
@[simp] theorem cNil_ap : cNil env S = .ok [] S := (rfl)
@[simp] theorem cCons_ap : cCons c cs env S = (c env S).bind fun d S1 => (cs env S1).bind fun ds S2 => .ok (d :: ds) S2 := (rfl)
@[simp] theorem cBin_ap : cBin f ca cb env S = (ca env S).bind fun x S1 => (cb env S1).bind fun y S2 => f x y S2 := (rfl)
@[simp] theorem cUn_ap : cUn u ca env S = (ca env S).bind u := (rfl)
@[simp] theorem cApp_ap : cApp F cs env S = (cs env S).bind F := (rfl)
@[simp] theorem cTst_ap : cTst c env S = (c env S).bind asB := (rfl)
@[simp] theorem asB_bl (b : Bool) : asB (.bl b) S = .ok b S := (rfl)
@[simp] theorem cAnd_ap : cAnd ca cb env S = (ca env S).bind fun x S1 => (asB x S1).bind fun k S1 => if k = true then cb env S1 else .ok (.bl false) S1 := (rfl)
@[simp] theorem cOr_ap : cOr ca cb env S = (ca env S).bind fun x S1 => (asB x S1).bind fun k S1 => if k = true then .ok (.bl true) S1 else cb env S1 := (rfl)
@[simp] theorem cAndT_ap : cAndT ta tb env S = (ta env S).bind fun k S1 => if k = true then tb env S1 else .ok false S1 := (rfl)
@[simp] theorem cOrT_ap : cOrT ta tb env S = (ta env S).bind fun k S1 => if k = true then .ok true S1 else tb env S1 := (rfl)
@[simp] theorem cNotT_ap : cNotT ta env S = (ta env S).bind fun k S1 => .ok (!k) S1 := (rfl)
@[simp] theorem cNot_ap : cNot ca env S = (ca env S).bind fun x S1 => (asB x S1).bind fun k S1 => .ok (.bl (!k)) S1 := (rfl)
@[simp] theorem cIf_ap : cIf t ca cb env S = (t env S).bind fun k S1 => if k = true then ca env S1 else cb env S1 := (rfl)
@[simp] theorem cChn_ap : cChn f g ca cb cc env S = (ca env S).bind fun x S1 => (cb env S1).bind fun y S2 => (f x y S2).bind fun z S3 => (asB z S3).bind fun k S3 => if k = true then (cc env S3).bind fun w S4 => g y w S4 else .ok (.bl false) S3 := (rfl)
@[simp] theorem cTup_ap : cTup cs env S = (cs env S).bind fun ds S1 => if ds.length ≤ LIM then .ok (.tup ds) S1 else .bad := (rfl)
@[simp] theorem cTupN_ap : cTupN cs env S = (cs env S).bind fun ds S1 => if ds.length ≤ LIM then .ok (.ntu ds) S1 else .bad := (rfl)
@[simp] theorem cLst_ap : cLst cs env S = (cs env S).bind fun ds S1 => if ds.length ≤ LIM then .ok ds S1 else .bad := (rfl)
@[simp] theorem cVal_ap : cVal cs env S = (cs env S).bind fun ds S1 => .ok (.lst ds) S1 := (rfl)
@[simp] theorem cBox_ap : cBox cs env S = (cs env S).bind fun ds S1 => .ok (.cel S1.length) (S1 ++ [.lst ds]) := (rfl)
@[simp] theorem cAppF_ap (F : DFl) : cAppF F cs env S = (cs env S).bind F := (rfl)
@[simp] theorem cRev_ap : cRev c env S = (c env S).bind fun x S1 => match listOf S1 x with
  | some ds => .ok ds.reverse S1
  | none => .bad := (rfl)
@[simp] theorem cKw_ap (n m : Nat) (perm : List Nat) : cKw F n m perm cs cs2 env S = (cs env S).bind fun xs S1 => (cs2 env S1).bind fun ys S2 => if xs.length = n ∧ ys.length = m then F (arr perm (xs ++ ys)) S2 else .bad := (rfl)
@[simp] theorem cMeth_ap (h : D → List D → Sto → Res D) : cMeth h c cs env S = (c env S).bind fun x S1 => if (listOf S1 x).isSome = true then (cs env S1).bind fun ys S2 => h x ys S2 else .bad := (rfl)
@[simp] theorem cNo_ap : cNo env S = .ok none S := (rfl)
@[simp] theorem cPart_ap : cPart c env S = (c env S).bind asI := (rfl)
@[simp] theorem asI_int (z : Int) : asI (.int z) S = .ok (some z) S := (rfl)
@[simp] theorem cSlG_ap (l h : DPn) : cSlG c l h env S = (c env S).bind fun x S1 => (l env S1).bind fun lo S2 => (h env S2).bind fun hi S3 => match listOf S3 x with
  | some ds => .ok (.lst (cutD ds lo hi)) S3
  | none => fSl x lo hi S3 := (rfl)
@[simp] theorem cRep_ap : cRep ca cb env S = (ca env S).bind fun x S1 => (cb env S1).bind fun y S2 => match strictL S2 x, y with
  | some xs, .int k => if k.natAbs < 2 ^ 62 ∧ xs.length * k.toNat ≤ LIM then .ok (List.replicate k.toNat xs).flatten S2 else .bad
  | _, _ => .bad := (rfl)
@[simp] theorem cLc_ap (it : Env → Sto → Res Src) (gg : DGn) (vs : List Nat) : cLc it gg t c vs env S = (it env S).bind fun src S1 => lcN src gg t c (wipeD env vs) src.n 0 [] S1 := (rfl)
@[simp] theorem tYesD_ap : tYesD env S = .ok true S := (rfl)
/-! statements -/
@[simp] theorem sNil_ap : sNil env S = .nx env S := (rfl)
@[simp] theorem sSeq_ap : sSeq s1 s2 env S = (s1 env S).seq s2 := (rfl)
@[simp] theorem sDrop_ap : sDrop c env S = (c env S).th env fun _ S1 => .nx env S1 := (rfl)
@[simp] theorem sRet_ap : sRet c env S = (c env S).th env fun d S1 => .ret d S1 := (rfl)
@[simp] theorem sRetN_ap : sRetN env S = .ret .non S := (rfl)
@[simp] theorem sIf_ap : sIf t s1 s2 env S = (t env S).th env fun k S1 => if k = true then s1 env S1 else s2 env S1 := (rfl)
@[simp] theorem sBrk_ap : sBrk env S = .brk env S := (rfl)
@[simp] theorem sCnt_ap : sCnt env S = .cnt env S := (rfl)
@[simp] theorem gNm_ap : gNm i d env S = .nx (env.set i (some d)) S := (rfl)
@[simp] theorem gsNil_nil : gsNil [] env S = .nx env S := (rfl)
@[simp] theorem gsCons_cons (gg : DGn) (gs : DGs) : gsCons gg gs (d :: ds) env S = (gg d env S).seq fun env' S' => gs ds env' S' := (rfl)
@[simp] theorem gTpn_tup (n : Nat) (gs : DGs) : gTpn n gs (.tup ds) env S = if ds.length = n then gs ds env S else .bad := (rfl)
@[simp] theorem gTpn_lst (n : Nat) (gs : DGs) : gTpn n gs (.lst ds) env S = if ds.length = n then gs ds env S else .bad := (rfl)
@[simp] theorem sSet_ap : sSet i c env S = (c env S).th env fun d S1 => .nx (env.set i (some d)) S1 := (rfl)
@[simp] theorem sAsg_ap (gg : DGn) : sAsg c gg env S = (c env S).th env fun d S1 => (gg d env S1).tg := (rfl)
@[simp] theorem tg_exn (e : Exn) : (RS.exn e env S).tg = .exn e env S := (rfl)
@[simp] theorem sPar_ap : sPar i j cs env S = (cs env S).th env fun ds S1 => match ds with
  | [x, y] => .nx ((env.set i (some x)).set j (some y)) S1
  | _ => .bad := (rfl)
@[simp] theorem sFor_ap (it : Env → Sto → Res Src) (gg : DGn) : sFor it gg s1 env S = (it env S).th env fun src S1 => forN src gg s1 src.n 0 env S1 := (rfl)
@[simp] theorem gSubD_ap : gSubD ca cb d env S = (ca env S).th env fun x S1 => (cb env S1).th env fun k S2 => match setD S2 x k d with
  | some S3 => .nx env S3
  | none => .bad := (rfl)
@[simp] theorem sAugS_ap : sAugS f ca cb cc env S = (ca env S).th env fun x S1 => match x with
  | .cel n => (cb env S1).th env fun k S2 => (oIx (.cel n) k S2).th env fun a S3 => (cc env S3).th env fun b S4 => (f a b S4).th env fun v S5 => match setD S5 (.cel n) k v with
    | some S6 => .nx env S6
    | none => .bad
  | _ => .bad := (rfl)
@[simp] theorem iSeq_ap : iSeq c env S = (c env S).bind srcOf := (rfl)
@[simp] theorem srcOf_tup : srcOf (.tup ds) S = .ok (.fix ds) S := (rfl)
@[simp] theorem srcOf_lst : srcOf (.lst ds) S = .ok (.fix ds) S := (rfl)
@[simp] theorem srcOf_kls : srcOf (.kls ds) S = .ok (.fix ds) S := (rfl)
def rng1F (ds : List D) (S1 : Sto) : Res Src := match ds with
  | [.int j] => if -(2 ^ 62) ≤ j ∧ j < 2 ^ 62 then .ok (.fix (rngL 0 j.toNat)) S1 else .bad
  | _ => .bad
def rng2F (ds : List D) (S1 : Sto) : Res Src := match ds with
  | [.int i, .int j] => if -(2 ^ 62) ≤ i ∧ i < 2 ^ 62 ∧ -(2 ^ 62) ≤ j ∧ j < 2 ^ 62 then .ok (.fix (rngL i (j - i).toNat)) S1 else .bad
  | _ => .bad
@[simp] theorem iRng1D_ap : iRng1D cs env S = (cs env S).bind rng1F := (rfl)
@[simp] theorem iRng2D_ap : iRng2D cs env S = (cs env S).bind rng2F := (rfl)
@[simp] theorem iEnumD_ap : iEnumD cs env S = (cs env S).bind fun ds S1 => match ds with
  | [d] => enumOf d S1
  | _ => .bad := (rfl)
@[simp] theorem enumOf_tup : enumOf (.tup ds) S = .ok (.fix (enumL 0 ds)) S := (rfl)
@[simp] theorem enumOf_lst : enumOf (.lst ds) S = .ok (.fix (enumL 0 ds)) S := (rfl)
@[simp] theorem iComb_ap : iComb cs env S = (cs env S).bind fun ds S1 => match ds with
  | [x, .int r] => (match seqOf S1 x with
    | some es => if 0 ≤ r ∧ r ≤ 1048576 then .ok (.fix ((DC.rows es r.toNat).map D.tup)) S1 else .bad
    | none => .bad)
  | _ => .bad := (rfl)
@[simp] theorem runF_ap (np n : Nat) : runF np n s1 ds S = if ds.length = np then (match s1 (entry n ds) S with
    | .nx _ S' => .ok .non S'
    | .ret d S' => .ok d S'
    | .exn x _ S' => .exn x S'
    | _ => .bad) else .bad := (rfl)
end
/-! operations on numbers -/
section
variable (S : Sto) (a b : Int)
@[simp] theorem oAddG_int : oAddG (.int a) (.int b) S = .ok (.int (a + b)) S := (rfl)
@[simp] theorem oSub_int : oSub (.int a) (.int b) S = .ok (.int (a - b)) S := (rfl)
theorem oMulG_int (h : mulB a b = true) : oMulG (.int a) (.int b) S = .ok (.int (a * b)) S := by
  show (if mulB a b = true then _ else _) = _
  rw [if_pos h]
theorem oDiv_int (h : 0 < b) (h2 : b.natAbs.log2 < 9000) : oDiv (.int a) (.int b) S = .ok (.int (a / b)) S := by
  show (if 0 < b ∧ b.natAbs.log2 < 9000 then _ else _) = _
  rw [if_pos ⟨h, h2⟩]
theorem oMod_int (h : 0 < b) : oMod (.int a) (.int b) S = .ok (.int (a % b)) S := by
  show (if 0 < b then _ else _) = _
  rw [if_pos h]
@[simp] theorem oLt_int : oLt (.int a) (.int b) S = .ok (.bl (decide (a < b))) S := (rfl)
@[simp] theorem oLe_int : oLe (.int a) (.int b) S = .ok (.bl (decide (a ≤ b))) S := (rfl)
@[simp] theorem oGt_int : oGt (.int a) (.int b) S = .ok (.bl (decide (b < a))) S := (rfl)
@[simp] theorem oGe_int : oGe (.int a) (.int b) S = .ok (.bl (decide (b ≤ a))) S := (rfl)
@[simp] theorem oEq_int : oEq (.int a) (.int b) S = .ok (.bl (decide (a = b))) S := by
  unfold oEq eqD
  simp [pyS, PySem.SeqAt.shaped, PyData.canLay0, PyData.depth, PyData.eqv]
  by_cases h : a = b <;> simp [h]
theorem nat64 {z : Int} (h0 : 0 ≤ z) (h1 : z ≤ 1000000000000) : z.natAbs < 2 ^ 64 := Nat.lt_of_le_of_lt (show z.natAbs ≤ 1000000000000 by omega) (by decide)
theorem mulB_r {i j : Int} (h0 : 0 ≤ j) (h1 : j ≤ 1000000000000) : mulB i j = true := by
  simp only [mulB, decide_eq_true (nat64 h0 h1), Bool.or_true, Bool.true_or]
theorem mulB_l {i j : Int} (h0 : 0 ≤ i) (h1 : i ≤ 1000000000000) : mulB i j = true := by
  simp only [mulB, decide_eq_true (nat64 h0 h1), Bool.or_true, Bool.true_or]
theorem log_small {z : Int} (h0 : 0 < z) (h1 : z ≤ 1000000000000) : z.natAbs.log2 < 9000 := by
  have : z.natAbs ≠ 0 := by omega
  exact (Nat.log2_lt this).mpr (Nat.lt_of_le_of_lt (show z.natAbs ≤ 1000000000000 by omega) (Nat.lt_of_lt_of_le (show 1000000000000 < 2 ^ 64 by decide) (Nat.pow_le_pow_right (by decide) (by decide))))
theorem rng_in {z : Int} (h0 : 0 ≤ z) (h1 : z ≤ 1000000000) : -(2 ^ 62) ≤ z ∧ z < 2 ^ 62 := ⟨Int.le_trans (by decide) h0, Int.lt_of_le_of_lt h1 (by decide)⟩
theorem rng1F_of {z : Int} (n : Nat) (e : z = n) (h : n ≤ 1000000000) : rng1F [.int z] S = .ok (.fix (rngL 0 n)) S := by
  subst e
  have k := rng_in (z := (n : Int)) (by omega) (by omega)
  simp only [rng1F, if_pos k, Int.toNat_natCast]
theorem rng2F_of {z y : Int} (n m : Nat) (e : z = n) (e2 : y = z + m) (h : n + m ≤ 1000000000) : rng2F [.int z, .int y] S = .ok (.fix (rngL z m)) S := by
  subst e e2
  have k := rng_in (z := (n : Int)) (by omega) (by omega)
  have k2 := rng_in (z := (n : Int) + m) (by omega) (by omega)
  simp only [rng2F, if_pos (And.intro k.1 (And.intro k.2 (And.intro k2.1 k2.2))), show ((n : Int) + m - n).toNat = m by omega]
@[simp] theorem fix_n (ds : List D) : (Src.fix ds).n = ds.length := (rfl)
@[simp] theorem rngL_length (lo : Int) (n : Nat) : (rngL lo n).length = n := rngL_len lo n
end
end DL
end

section
set_option Elab.async false
set_option linter.all false
set_option maxRecDepth 100000
set_option maxHeartbeats 4000000
set_option autoImplicit false
/-! loops, reckoned -/
namespace DL
/-- one turn of a loop -/
abbrev turnOf (g : DGn) (b : DSn) (d : D) (env : Env) (S : Sto) : RS := ((g d env S).tg).seq b
theorem forN_end {src : Src} {g : DGn} {b : DSn} {m i : Nat} {env : Env} {S : Sto} (h : src.cur S i = .stop) : forN src g b m i env S = .nx env S := by
  cases m <;> simp [forN, h]
theorem forN_turn {src : Src} {g : DGn} {b : DSn} {m i : Nat} {env : Env} {S : Sto} {d : D} (h : src.cur S i = .it d) : forN src g b (m + 1) i env S = (turnOf g b d env S).lp (forN src g b m (i + 1)) := by
  simp [forN, h]
/-- a loop along any source whose items stay told: each turn goes on, or all is left with a value -/
theorem for_gen {src : Src} {g : DGn} {b : DSn} {items : List D} (out : D → Option D) (P : Nat → Env → Sto → Prop) (R : D → Sto → Prop) (hn : src.n = items.length)
    (hc : ∀ i env S, P i env S → src.cur S i = Cur.of items[i]?)
    (step : ∀ i d env S, items[i]? = some d → P i env S → (match out d with
      | none => ∃ env' S', (turnOf g b d env S = .nx env' S' ∨ turnOf g b d env S = .cnt env' S') ∧ P (i + 1) env' S'
      | some r => ∃ S', turnOf g b d env S = .ret r S' ∧ R r S')) : ∀ (m i : Nat) (env : Env) (S : Sto), m + i = items.length → P i env S →
    (match (items.drop i).findSome? out with
      | none => ∃ env' S', forN src g b m i env S = .nx env' S' ∧ P items.length env' S'
      | some r => ∃ S', forN src g b m i env S = .ret r S' ∧ R r S')
  | 0, i, env, S, hm, hp => by
    have hi : i = items.length := by omega
    subst hi
    rw [List.drop_length]
    refine ⟨env, S, forN_end ?_, hp⟩
    rw [hc _ _ _ hp, List.getElem?_eq_none (Nat.le_refl _)]
    rfl
  | m + 1, i, env, S, hm, hp => by
    have hi : i < items.length := by omega
    have he : items[i]? = some items[i] := List.getElem?_eq_getElem hi
    have hcur : src.cur S i = .it items[i] := by rw [hc _ _ _ hp, he]; rfl
    rw [List.drop_eq_getElem_cons hi, List.findSome?_cons]
    have st := step i items[i] env S he hp
    cases ho : out items[i] with
    | none =>
      rw [ho] at st
      obtain ⟨env', S', ht, hp'⟩ := st
      have ih := for_gen out P R hn hc step m (i + 1) env' S' (by omega) hp'
      have e : forN src g b (m + 1) i env S = forN src g b m (i + 1) env' S' := by
        rw [forN_turn hcur]
        rcases ht with ht | ht <;> rw [ht] <;> rfl
      rw [e]
      exact ih
    | some r =>
      rw [ho] at st
      obtain ⟨S', ht, hr⟩ := st
      refine ⟨S', ?_, hr⟩
      rw [forN_turn hcur, ht]
      rfl
theorem for_all {g : DGn} {b : DSn} {items : List D} {env : Env} {S : Sto} (P : Nat → Env → Sto → Prop) (h0 : P 0 env S)
    (step : ∀ i d env S, items[i]? = some d → P i env S → ∃ env' S', (turnOf g b d env S = .nx env' S' ∨ turnOf g b d env S = .cnt env' S') ∧ P (i + 1) env' S') :
    ∃ env' S', forN (.fix items) g b items.length 0 env S = .nx env' S' ∧ P items.length env' S' := by
  have := for_gen (src := .fix items) (g := g) (b := b) (items := items) (fun _ => none) P (fun _ _ => True) rfl (fun _ _ _ _ => rfl) step items.length 0 env S (by omega) h0
  have e : (items.drop 0).findSome? (fun _ => (none : Option D)) = none := by simp
  rw [e] at this
  exact this
theorem for_cel {g : DGn} {b : DSn} {items : List D} {k : Nat} {env : Env} {S : Sto} (P : Nat → Env → Sto → Prop) (h0 : P 0 env S) (hk : ∀ i env S, P i env S → S[k]? = some (.lst items))
    (step : ∀ i d env S, items[i]? = some d → P i env S → ∃ env' S', (turnOf g b d env S = .nx env' S' ∨ turnOf g b d env S = .cnt env' S') ∧ P (i + 1) env' S') :
    ∃ env' S', forN (.cel k items.length) g b items.length 0 env S = .nx env' S' ∧ P items.length env' S' := by
  have := for_gen (src := .cel k items.length) (g := g) (b := b) (items := items) (fun _ => none) P (fun _ _ => True) rfl (fun i env S h => by simp only [Src.cel, hk i env S h]) step items.length 0 env S (by omega) h0
  have e : (items.drop 0).findSome? (fun _ => (none : Option D)) = none := by simp
  rw [e] at this
  exact this
theorem for_find {g : DGn} {b : DSn} {items : List D} {env : Env} {S : Sto} (out : D → Option D) (P : Env → Sto → Prop) (R : D → Sto → Prop) (h0 : P env S)
    (step : ∀ d env S, d ∈ items → P env S → (match out d with
      | none => ∃ env' S', (turnOf g b d env S = .nx env' S' ∨ turnOf g b d env S = .cnt env' S') ∧ P env' S'
      | some r => ∃ S', turnOf g b d env S = .ret r S' ∧ R r S')) :
    (match items.findSome? out with
      | none => ∃ env' S', forN (.fix items) g b items.length 0 env S = .nx env' S' ∧ P env' S'
      | some r => ∃ S', forN (.fix items) g b items.length 0 env S = .ret r S' ∧ R r S') := by
  have := for_gen (src := .fix items) (g := g) (b := b) (items := items) out (fun _ => P) R rfl (fun _ _ _ _ => rfl) (fun i d env S h hp => step d env S (List.mem_of_getElem? h) hp) items.length 0 env S (by omega) h0
  rwa [List.drop_zero] at this
/-- .. along a list of the store -/
theorem for_findC {g : DGn} {b : DSn} {items : List D} {k : Nat} {env : Env} {S : Sto} (out : D → Option D) (P : Env → Sto → Prop) (R : D → Sto → Prop) (h0 : P env S) (hk : ∀ env S, P env S → S[k]? = some (.lst items))
    (step : ∀ d env S, d ∈ items → P env S → (match out d with
      | none => ∃ env' S', (turnOf g b d env S = .nx env' S' ∨ turnOf g b d env S = .cnt env' S') ∧ P env' S'
      | some r => ∃ S', turnOf g b d env S = .ret r S' ∧ R r S')) :
    (match items.findSome? out with
      | none => ∃ env' S', forN (.cel k items.length) g b items.length 0 env S = .nx env' S' ∧ P env' S'
      | some r => ∃ S', forN (.cel k items.length) g b items.length 0 env S = .ret r S' ∧ R r S') := by
  have := for_gen (src := .cel k items.length) (g := g) (b := b) (items := items) out (fun _ => P) R rfl (fun i env S h => by simp only [Src.cel, hk env S h]) (fun i d env S h hp => step d env S (List.mem_of_getElem? h) hp) items.length 0 env S (by omega) h0
  rwa [List.drop_zero] at this
/-- a comprehension: each item gives what f tells -/
theorem lc_gen {src : Src} {g : DGn} {t : DTn} {e : DEn} {env0 : Env} {items : List D} (f : D → Option D) (P : Sto → Prop) (hn : src.n = items.length)
    (hc : ∀ i S, P S → src.cur S i = Cur.of items[i]?) (hz : items.length ≤ LIM)
    (step : ∀ d S, d ∈ items → P S → ∃ env2 S2, g d env0 S = .nx env2 S2 ∧ (match f d with
      | none => ∃ S3, t env2 S2 = .ok false S3 ∧ P S3
      | some y => ∃ S3 S4, t env2 S2 = .ok true S3 ∧ e env2 S3 = .ok y S4 ∧ P S4)) : ∀ (m i : Nat) (acc : List D) (S : Sto), m + i = items.length → acc.length ≤ i → P S →
    ∃ S', lcN src g t e env0 m i acc S = .ok (acc ++ (items.drop i).filterMap f) S' ∧ P S'
  | 0, i, acc, S, hm, ha, hp => by
    have hi : i = items.length := by omega
    subst hi
    refine ⟨S, ?_, hp⟩
    have hcur : src.cur S items.length = .stop := by rw [hc _ _ hp, List.getElem?_eq_none (Nat.le_refl _)]; rfl
    simp [lcN, hcur]
  | m + 1, i, acc, S, hm, ha, hp => by
    have hi : i < items.length := by omega
    have hcur : src.cur S i = .it items[i] := by rw [hc _ _ hp, List.getElem?_eq_getElem hi]; rfl
    obtain ⟨env2, S2, hg, st⟩ := step items[i] S (List.getElem_mem hi) hp
    rw [List.drop_eq_getElem_cons hi, List.filterMap_cons]
    cases hf : f items[i] with
    | none =>
      rw [hf] at st
      obtain ⟨S3, ht, hp3⟩ := st
      obtain ⟨S', h1, h2⟩ := lc_gen f P hn hc hz step m (i + 1) acc S3 (by omega) (by omega) hp3
      refine ⟨S', ?_, h2⟩
      simp only [lcN, hcur, hg, ht, nox_ok, bind_ok, Bool.false_eq_true, if_false]
      exact h1
    | some y =>
      rw [hf] at st
      obtain ⟨S3, S4, ht, he, hp4⟩ := st
      obtain ⟨S', h1, h2⟩ := lc_gen f P hn hc hz step m (i + 1) (acc ++ [y]) S4 (by omega) (by simp; omega) hp4
      refine ⟨S', ?_, h2⟩
      have hl : acc.length < LIM := by omega
      simp only [lcN, hcur, hg, ht, he, nox_ok, bind_ok, if_true, if_pos hl]
      rw [h1, List.append_assoc]
      rfl
theorem lc_fix {g : DGn} {t : DTn} {e : DEn} {env0 : Env} {items : List D} {S : Sto} (f : D → Option D) (P : Sto → Prop) (h0 : P S) (hz : items.length ≤ LIM)
    (step : ∀ d S, d ∈ items → P S → ∃ env2 S2, g d env0 S = .nx env2 S2 ∧ (match f d with
      | none => ∃ S3, t env2 S2 = .ok false S3 ∧ P S3
      | some y => ∃ S3 S4, t env2 S2 = .ok true S3 ∧ e env2 S3 = .ok y S4 ∧ P S4)) :
    ∃ S', lcN (.fix items) g t e env0 items.length 0 [] S = .ok (items.filterMap f) S' ∧ P S' := by
  obtain ⟨S', h1, h2⟩ := lc_gen (src := .fix items) f P rfl (fun _ _ _ => rfl) hz step items.length 0 [] S (by omega) (by simp) h0
  exact ⟨S', by simpa using h1, h2⟩
/-- .. the store left as it is -/
theorem lc_pure {g : DGn} {t : DTn} {e : DEn} {env0 : Env} {items : List D} {S : Sto} (f : D → Option D) (hz : items.length ≤ LIM)
    (step : ∀ d, d ∈ items → ∃ env2, g d env0 S = .nx env2 S ∧ (match f d with
      | none => t env2 S = .ok false S
      | some y => t env2 S = .ok true S ∧ e env2 S = .ok y S)) :
    lcN (.fix items) g t e env0 items.length 0 [] S = .ok (items.filterMap f) S := by
  obtain ⟨S', h1, h2⟩ := lc_fix (items := items) (S := S) f (fun S' => S' = S) rfl hz fun d S1 hd h => by
    subst h
    obtain ⟨env2, hg, st⟩ := step d hd
    refine ⟨env2, S1, hg, ?_⟩
    cases hf : f d with
    | none =>
      rw [hf] at st
      exact ⟨S1, st, rfl⟩
    | some y =>
      rw [hf] at st
      exact ⟨S1, S1, st.1, st.2, rfl⟩
  subst h2
  exact h1
theorem lc_pureC {g : DGn} {t : DTn} {e : DEn} {env0 : Env} {items : List D} {k : Nat} {S : Sto} (hk : S[k]? = some (.lst items)) (f : D → Option D) (hz : items.length ≤ LIM)
    (step : ∀ d, d ∈ items → ∃ env2, g d env0 S = .nx env2 S ∧ (match f d with
      | none => t env2 S = .ok false S
      | some y => t env2 S = .ok true S ∧ e env2 S = .ok y S)) :
    lcN (.cel k items.length) g t e env0 items.length 0 [] S = .ok (items.filterMap f) S := by
  obtain ⟨S', h1, h2⟩ := lc_gen (src := .cel k items.length) (g := g) (t := t) (e := e) (env0 := env0) (items := items) f (fun S' => S' = S) rfl (fun i S1 h => by subst h; simp only [Src.cel, hk]) hz (fun d S1 hd h => by
    subst h
    obtain ⟨env2, hg, st⟩ := step d hd
    refine ⟨env2, S1, hg, ?_⟩
    cases hf : f d with
    | none =>
      rw [hf] at st
      exact ⟨S1, st, rfl⟩
    | some y =>
      rw [hf] at st
      exact ⟨S1, S1, st.1, st.2, rfl⟩) items.length 0 [] S (by omega) (by simp) rfl
  subst h2
  simpa using h1
end DL
end

section
set_option Elab.async false
set_option linter.all false
set_option maxRecDepth 100000
set_option maxHeartbeats 4000000
set_option autoImplicit false
namespace DL
/-- a comprehension over things told by xs -/
theorem lc_map {α : Type} {g : DGn} {t : DTn} {e : DEn} {env0 : Env} {xs : List α} {m : Nat} {ds : List D} {S : Sto} (toD : Nat → α → D) (p : α → Bool) (h : α → D) (hm : m = xs.length) (hd : ds.length = xs.length) (hds : ∀ i x, xs[i]? = some x → ds[i]? = some (toD i x)) (hz : xs.length ≤ LIM)
    (step : ∀ i x, xs[i]? = some x → ∃ env2, g (toD i x) env0 S = .nx env2 S ∧ t env2 S = .ok (p x) S ∧ (p x = true → e env2 S = .ok (h x) S)) :
    lcN (.fix ds) g t e env0 m 0 [] S = .ok ((xs.filter p).map h) S := by
  subst hm
  -- by the tail behind each place
  have key : ∀ (k i : Nat) (acc : List D), k + i = xs.length → acc.length ≤ i → lcN (.fix ds) g t e env0 k i acc S = .ok (acc ++ ((xs.drop i).filter p).map h) S := by
    intro k
    induction k with
    | zero =>
      intro i acc hk ha
      have hi : i = xs.length := by omega
      subst hi
      have hcur : (Src.fix ds).cur S xs.length = .stop := by
        show Cur.of ds[xs.length]? = _
        rw [List.getElem?_eq_none (by omega)]
        rfl
      simp [lcN, hcur]
    | succ k ih =>
      intro i acc hk ha
      have hi : i < xs.length := by omega
      have hx : xs[i]? = some xs[i] := List.getElem?_eq_getElem hi
      have hcur : (Src.fix ds).cur S i = .it (toD i xs[i]) := by
        show Cur.of ds[i]? = _
        rw [hds i _ hx]
        rfl
      obtain ⟨env2, hg, ht, he⟩ := step i xs[i] hx
      rw [List.drop_eq_getElem_cons hi, List.filter_cons]
      cases hp : p xs[i] with
      | false =>
        rw [hp] at ht
        simp only [lcN, hcur, hg, ht, nox_ok, bind_ok, Bool.false_eq_true, if_false]
        rw [ih (i + 1) acc (by omega) (by omega)]
      | true =>
        rw [hp] at ht
        have he := he hp
        have hl : acc.length < LIM := by omega
        simp only [lcN, hcur, hg, ht, he, nox_ok, bind_ok, if_true, if_pos hl]
        rw [ih (i + 1) (acc ++ [h xs[i]]) (by omega) (by simp; omega), List.append_assoc]
        rfl
  have := key xs.length 0 [] (by omega) (by simp)
  simpa using this
theorem lc_mapC {α : Type} {g : DGn} {t : DTn} {e : DEn} {env0 : Env} {xs : List α} {m k : Nat} {S : Sto} (toD : α → D) (p : α → Bool) (h : α → D) (hk : S[k]? = some (.lst (xs.map toD))) (hm : m = xs.length) (hz : xs.length ≤ LIM)
    (step : ∀ x ∈ xs, ∃ env2, g (toD x) env0 S = .nx env2 S ∧ t env2 S = .ok (p x) S ∧ (p x = true → e env2 S = .ok (h x) S)) :
    lcN (.cel k m) g t e env0 m 0 [] S = .ok ((xs.filter p).map h) S := by
  subst hm
  have := lc_pureC (g := g) (t := t) (e := e) (env0 := env0) (items := xs.map toD) (k := k) (S := S) hk
  have key : ∀ (j i : Nat) (acc : List D), j + i = xs.length → acc.length ≤ i → lcN (.cel k xs.length) g t e env0 j i acc S = .ok (acc ++ ((xs.drop i).filter p).map h) S := by
    intro j
    induction j with
    | zero =>
      intro i acc hj ha
      have hi : i = xs.length := by omega
      subst hi
      have hcur : (Src.cel k xs.length).cur S xs.length = .stop := by
        simp [Src.cel, hk, Cur.of]
      simp [lcN, hcur]
    | succ j ih =>
      intro i acc hj ha
      have hi : i < xs.length := by omega
      have hcur : (Src.cel k xs.length).cur S i = .it (toD xs[i]) := by
        simp [Src.cel, hk, Cur.of, hi]
      obtain ⟨env2, hg, ht, he⟩ := step xs[i] (List.getElem_mem hi)
      rw [List.drop_eq_getElem_cons hi, List.filter_cons]
      cases hp : p xs[i] with
      | false =>
        rw [hp] at ht
        simp only [lcN, hcur, hg, ht, nox_ok, bind_ok, Bool.false_eq_true, if_false]
        rw [ih (i + 1) acc (by omega) (by omega)]
      | true =>
        rw [hp] at ht
        have he := he hp
        have hl : acc.length < LIM := by omega
        simp only [lcN, hcur, hg, ht, he, nox_ok, bind_ok, if_true, if_pos hl]
        rw [ih (i + 1) (acc ++ [h xs[i]]) (by omega) (by simp; omega), List.append_assoc]
        rfl
  have := key xs.length 0 [] (by omega) (by simp)
  simpa using this
theorem lc_rng {g : DGn} {t : DTn} {e : DEn} {env0 : Env} {n : Nat} {lo : Int} {S : Sto} (h : Nat → D) (hz : n ≤ LIM)
    (step : ∀ k, k < n → ∃ env2, g (.int (lo + k)) env0 S = .nx env2 S ∧ t env2 S = .ok true S ∧ e env2 S = .ok (h k) S) :
    lcN (.fix (rngL lo n)) g t e env0 n 0 [] S = .ok ((List.range n).map h) S := by
  have := lc_map (g := g) (t := t) (e := e) (env0 := env0) (xs := List.range n) (m := n) (ds := rngL lo n) (S := S) (fun _ k => .int (lo + (k : Nat))) (fun _ => true) h (by simp) (by simp) (fun i x hx => by
    have hi : i < n := by
      have := (List.getElem?_eq_some_iff.mp hx).1
      simpa using this
    have : x = i := by
      rw [List.getElem?_range hi] at hx
      exact (Option.some.inj hx).symm
    subst this
    exact rngL_get hi) (by simpa using hz) (fun i x hx => by
    have hx' : x < n := by
      have := List.mem_of_getElem? hx
      simpa using this
    obtain ⟨env2, h1, h2, h3⟩ := step x hx'
    exact ⟨env2, h1, h2, fun _ => h3⟩)
  rwa [List.filter_eq_self.mpr (fun _ _ => rfl)] at this
theorem celE_it {S : Sto} {k : Nat} {ds : List D} (h : S[k]? = some (.lst ds)) : srcOf (.cel k) S = .ok (.cel k ds.length) S := by simp [srcOf, h]
theorem seqOf_cel {S : Sto} {k : Nat} {ds : List D} (h : S[k]? = some (.lst ds)) : seqOf S (.cel k) = some ds := by simp [seqOf, listOf, h]
theorem listOf_cel {S : Sto} {k : Nat} {ds : List D} (h : S[k]? = some (.lst ds)) : listOf S (.cel k) = some ds := by simp [listOf, h]
theorem append_cel {S : Sto} {k : Nat} {ds : List D} {y : D} (h : S[k]? = some (.lst ds)) (hz : ds.length < LIM) : fAppend (.cel k) [y] S = .ok .non (S.set k (.lst (ds ++ [y]))) := by
  simp only [fAppend, h, if_pos hz]
theorem extend_cel {S : Sto} {k : Nat} {ds es : List D} (h : S[k]? = some (.lst ds)) (hz : ds.length + es.length ≤ LIM) : fExtend (.cel k) [.lst es] S = .ok .non (S.set k (.lst (ds ++ es))) := by
  simp only [fExtend, h, strictOf, if_pos hz]
@[simp] theorem listOf_lst (S : Sto) (ds : List D) : listOf S (.lst ds) = some ds := (rfl)
@[simp] theorem seqOf_lst (S : Sto) (ds : List D) : seqOf S (.lst ds) = some ds := (rfl)
@[simp] theorem seqOf_tup (S : Sto) (ds : List D) : seqOf S (.tup ds) = some ds := (rfl)
@[simp] theorem seqOf_ntu (S : Sto) (ds : List D) : seqOf S (.ntu ds) = some ds := (rfl)
@[simp] theorem len_lst (S : Sto) (ds : List D) : fLen [.lst ds] S = .ok (.int ds.length) S := (rfl)
@[simp] theorem len_tup (S : Sto) (ds : List D) : fLen [.tup ds] S = .ok (.int ds.length) S := (rfl)
@[simp] theorem len_ntu (S : Sto) (ds : List D) : fLen [.ntu ds] S = .ok (.int ds.length) S := (rfl)
@[simp] theorem int_int (S : Sto) (i : Int) : fInt [.int i] S = .ok (.int i) S := (rfl)
@[simp] theorem int_bl (S : Sto) (b : Bool) : fInt [.bl b] S = .ok (.int (if b then 1 else 0)) S := (rfl)
@[simp] theorem tuple_tup (S : Sto) (ds : List D) : fTuple [.tup ds] S = .ok (.tup ds) S := (rfl)
@[simp] theorem tuple_lst (S : Sto) (ds : List D) : fTuple [.lst ds] S = .ok (.tup ds) S := (rfl)
theorem ix_seq {S : Sto} {x : D} {ds : List D} {n : Nat} {d : D} (hx : seqOf S x = some ds) (h : ds[n]? = some d) : oIx x (.int (n : Int)) S = .ok d S := by
  simp only [oIx, hx, L2.atI_nat h]
@[simp] theorem ix_tup0 (S : Sto) (d : D) (ds : List D) : oIx (.tup (d :: ds)) (.int 0) S = .ok d S := ix_seq (n := 0) rfl rfl
@[simp] theorem ix_tup1 (S : Sto) (d e : D) (ds : List D) : oIx (.tup (d :: e :: ds)) (.int 1) S = .ok e S := ix_seq (n := 1) rfl rfl
@[simp] theorem ix_lst0 (S : Sto) (d : D) (ds : List D) : oIx (.lst (d :: ds)) (.int 0) S = .ok d S := ix_seq (n := 0) rfl rfl
@[simp] theorem ix_lst1 (S : Sto) (d e : D) (ds : List D) : oIx (.lst (d :: e :: ds)) (.int 1) S = .ok e S := ix_seq (n := 1) rfl rfl
theorem set_cel {S : Sto} {k n : Nat} {ds : List D} {v : D} (h : S[k]? = some (.lst ds)) (hn : n < ds.length) : setD S (.cel k) (.int (n : Int)) v = some (S.set k (.lst (ds.set n v))) := by
  have e : L2.ixN ds.length (n : Int) = some n := by
    unfold L2.ixN
    rw [if_pos (by omega), if_pos (by omega), Int.toNat_natCast]
  simp [setD, h, e]
end DL
namespace DL
theorem set_last (S : Sto) (c d : Cell) : (S ++ [c]).set S.length d = S ++ [d] := by simp [List.set_append]
theorem get_last (S : Sto) (c : Cell) : (S ++ [c])[S.length]? = some c := by simp
theorem ext_last (S : Sto) (A es : List D) (h : A.length + es.length ≤ LIM) : fExtend (.cel S.length) [.lst es] (S ++ [.lst A]) = .ok .non (S ++ [.lst (A ++ es)]) := by
  rw [extend_cel (get_last S _) h, set_last]
theorem app_last (S : Sto) (A : List D) (y : D) (h : A.length < LIM) : fAppend (.cel S.length) [y] (S ++ [.lst A]) = .ok .non (S ++ [.lst (A ++ [y])]) := by
  rw [append_cel (get_last S _) h, set_last]
@[simp] theorem listOf_last (S : Sto) (A : List D) : listOf (S ++ [.lst A]) (.cel S.length) = some A := listOf_cel (get_last S _)
@[simp] theorem seqOf_last (S : Sto) (A : List D) : seqOf (S ++ [.lst A]) (.cel S.length) = some A := seqOf_cel (get_last S _)
@[simp] theorem src_last (S : Sto) (A : List D) : srcOf (.cel S.length) (S ++ [.lst A]) = .ok (.cel S.length A.length) (S ++ [.lst A]) := celE_it (get_last S _)
@[simp] theorem cel_n (k n : Nat) : (Src.cel k n).n = n := rfl
end DL
namespace DL
/-- a loop along a written list, turn by turn -/
def forL (g : DGn) (b : DSn) : List D → DSn
  | [] => fun env S => .nx env S
  | d :: ds => fun env S => (turnOf g b d env S).lp (forL g b ds)
@[simp] theorem forL_nil (g : DGn) (b : DSn) (env : Env) (S : Sto) : forL g b [] env S = .nx env S := (rfl)
@[simp] theorem forL_cons (g : DGn) (b : DSn) (d : D) (ds : List D) (env : Env) (S : Sto) : forL g b (d :: ds) env S = (turnOf g b d env S).lp (forL g b ds) := (rfl)
theorem forN_tail (g : DGn) (b : DSn) (all : List D) : ∀ (ds : List D) (i : Nat), all.drop i = ds → ∀ env S, forN (.fix all) g b ds.length i env S = forL g b ds env S
  | [], i, h, env, S => by
    have hi : all.length ≤ i := List.drop_eq_nil_iff.mp h
    refine forN_end ?_
    show Cur.of all[i]? = _
    rw [List.getElem?_eq_none hi]
    rfl
  | d :: ds, i, h, env, S => by
    have hi : i < all.length := by
      by_cases z : i < all.length
      · exact z
      · rw [List.drop_eq_nil_of_le (by omega)] at h
        cases h
    rw [List.drop_eq_getElem_cons hi] at h
    injection h with h1 h2
    have hcur : (Src.fix all).cur S i = .it d := by
      show Cur.of all[i]? = _
      rw [List.getElem?_eq_getElem hi, h1]
      rfl
    rw [List.length_cons, forN_turn hcur, forL_cons]
    congr 1
    funext env S
    exact forN_tail g b all ds (i + 1) h2 env S
theorem forN_fixL {g : DGn} {b : DSn} {ds : List D} {n : Nat} {env : Env} {S : Sto} (h : n = ds.length) : forN (.fix ds) g b n 0 env S = forL g b ds env S := by
  subst h
  exact forN_tail g b ds ds 0 rfl env S
end DL
end

section
set_option Elab.async false
set_option linter.all false
set_option maxRecDepth 100000
set_option maxHeartbeats 4000000
set_option autoImplicit false
/-! lambdas without captured names, handed to a def -/
namespace DL
open PySem PySem.Spec PyProof.Rows L2 LamX
section
variable {X : Cx} {pins : List (Addr × Obj)} {σ : L2.St} {H : Hp} {s : Shared}
theorem inv_lam {L : LamT} {c' : Addr} {t' : Nat} {pm ctv : Value} (I : L2.Inv X pins σ H s) :
    L2.Inv X pins σ (upd H s.heap.objs.size (LamO s.heap.objs.size L c')) { s with heap := s.heap.push (PySem.W.kla_obj "<lambda>" L.qual L.params L.body L.scope [] pm c' ctv), toks := t' } := by
  refine I.laid (a := s.heap.objs.size) (fun b u e => Heap.get?_push_of_some _ e) (Nat.le_refl _) ?_
  have e : (s.heap.push (PySem.W.kla_obj "<lambda>" L.qual L.params L.body L.scope [] pm c' ctv)).get? s.heap.objs.size = some (PySem.W.kla_obj "<lambda>" L.qual L.params L.body L.scope [] pm c' ctv) := Heap.get?_push_size _ rfl
  exact ⟨⟨pm, ctv, e⟩, ⟨_, e⟩, fun h1 h2 ⟨p, t, z⟩ st => ⟨p, t, st _ z⟩⟩
theorem lamO_at {P : Program} {w : World} {h : Heap} {f c : Addr} {L : LamT} (hok : HOk P w H h) (e : H f = some (LamO f L c)) : ∃ (pm ctv : Value), h.get? f = some (PySem.W.kla_obj "<lambda>" L.qual L.params L.body L.scope [] pm c ctv) := by
  obtain ⟨z, _, _⟩ := hok f _ e
  exact z
theorem cloFrom_nil {cells : List (Str × Addr)} {names : List (Str × NameKind)} (h : ∀ y ∈ names, y.2 ≠ .free) : cloFrom cells names [] = [] := by
  cases e : cloFrom cells names [] with
  | nil => rfl
  | cons a r =>
    obtain ⟨n, c⟩ := a
    have hm : (n, c) ∈ cloFrom cells names [] := by rw [e]; exact List.mem_cons_self
    rcases cloFrom_mem hm with z | ⟨z, _⟩
    · cases z
    · exact absurd rfl (h _ z)
end
/-- what is known of the defs that hold a lambda -/
structure TabF (K : PySem.W.Frag) (mg : Str → Option Value) (base : Heap) : Prop where
  tb : ∀ p ∈ TBL, mg p.1 ≠ none → TabB base mg (He.cT K (p.1, none)).1 (He.cT K (p.1, none)).2
  ne : ∀ p ∈ TBL, ∀ p' ∈ TBL, mg p.1 ≠ none → mg p'.1 ≠ none → (He.cT K (p.1, none)).2 = (He.cT K (p'.1, none)).2 → p.2 = p'.2
section
variable {K : PySem.W.Frag} {mg : Str → Option Value} {ι : Nm} {H : Hp} {S : Sto}
/-- a table grows, its new code object stands beside it -/
theorem sim_tab {base : Heap} {x q : Str} (T : TabF K mg base) (hS : SimS K mg ι H S) (hx : (x, q) ∈ TBL) (hm : mg x ≠ none) {ps : Array Value} {c : Addr} {pos : Pos} (hP : H (He.cT K (x, none)).2 = some (.tbl ps)) (ht : TriplesOk ps.toList) (nc : H c = none) :
    Ext ι H ι (upd (upd H (He.cT K (x, none)).2 (.tbl (ps ++ #[rawInt pos.line, rawInt pos.col, .ref c]))) c (CodeO c q)) ∧ SimS K mg ι (upd (upd H (He.cT K (x, none)).2 (.tbl (ps ++ #[rawInt pos.line, rawInt pos.col, .ref c]))) c (CodeO c q)) S := by
  generalize hPe : (He.cT K (x, none)).2 = P at *
  have nPc : P ≠ c := ne_of_none hP nc
  have t0 := hS.tab _ hx hm
  have nP : P ∉ ι.ns := by rw [← hPe]; exact t0.1
  have X : Ext ι H ι (upd (upd H P (.tbl (ps ++ #[rawInt pos.line, rawInt pos.col, .ref c]))) c (CodeO c q)) := by
    refine ⟨⟨[], (List.append_nil _).symm⟩, rfl, fun a o h t n => ⟨?_, n⟩, fun a h => upd_trk (upd_trk h)⟩
    rw [upd_ne (ne_of_none h nc), upd_ne (fun z => t ps (by rw [z, hP] at h; exact (Option.some.inj h).symm))]
    exact h
  refine ⟨X, ⟨hS.len, hS.nd, fun n cl a h1 h2 => (hS.at_ n cl a h1 h2).mo X.mo ?_, fun a ha => ⟨X.trk a (hS.hid a ha).1, (hS.hid a ha).2⟩, fun p hp hmp => ?_, fun a ha => ?_⟩⟩
  · have ha : a ∈ ι.ns := List.mem_of_getElem? h2
    obtain ⟨o, ho⟩ := Option.ne_none_iff_exists'.mp (hS.tracked ha)
    rw [upd_ne (ne_of_none ho nc), upd_ne (fun z => nP (by rw [← z]; exact ha))]
  · have tp := hS.tab p hp hmp
    by_cases e : (He.cT K (p.1, none)).2 = P
    · have eq : p.2 = q := by
        have := T.ne p hp (x, q) hx hmp hm (by rw [e]; exact hPe.symm)
        exact this
      obtain ⟨a1, a2, ps', b1, b2, b3⟩ := tp
      rw [e, hP] at b1
      cases b1
      refine ⟨a1, a2, _, by rw [e, upd_ne nPc, upd_same], by
        rw [show (ps ++ #[rawInt pos.line, rawInt pos.col, .ref c]).toList = ps.toList ++ [rawInt pos.line, rawInt pos.col, .ref c] by simp]
        exact PySem.TriplesOk_snoc _ _ _ _ ht, fun p' cv hcv => ?_⟩
      rw [show (ps ++ #[rawInt pos.line, rawInt pos.col, .ref c]).toList = ps.toList ++ [rawInt pos.line, rawInt pos.col, .ref c] by simp] at hcv
      rcases among_app _ ht hcv with z | z
      · obtain ⟨c0, e1, e2, e3⟩ := b3 p' cv z
        exact ⟨c0, e1, (X.mo.keep _ _ e2 codeO_ne e3).1, (X.mo.keep _ _ e2 codeO_ne e3).2⟩
      · exact ⟨c, z, by rw [eq]; exact upd_same, hS.fresh nc⟩
    · refine tp.mo X.mo ?_ tp.1 tp.2.1
      rw [upd_ne (tp.ne nc), upd_ne e]
  · obtain ⟨o, ho⟩ := Option.ne_none_iff_exists'.mp (hS.hid a ha).1
    have nH : P ∉ ι.hid := by rw [← hPe]; exact t0.2.1
    rw [upd_ne (ne_of_none ho nc), upd_ne (fun z => nH (by rw [← z]; exact ha))]
    exact hS.hnt a ha
end
/-- calls of a lambda -/
structure LamRun (g : Bool) (P : Program) (w : World) (K : PySem.W.Frag) (mg : Str → Option Value) (base : Heap) (k : Nat) (L : LamT) (F : DFn) : Prop where
  run : ∀ (f c : Addr) (A : Around) (outer : List PySem.Env) (s : Shared) (H : Hp) (us : List Value) (vs : List V) (Q : VK) (E : XK), Room k A → (g = true → A.guards = some []) → Env0 P w K mg base A outer s H → H f = some (LamO f L c) → H c = some (CodeO c L.qual) →
    Vals vs us → spD K mg F vs H Q E → codeAny (model P w) A (.call (.ref f) ⟨us, []⟩) (CR (L2.CX P w) outer P w H s Q E) s
/-- a lambda's body on its arguments -/
def runE (np n : Nat) (c : DEn) : DFn := fun ds S => if ds.length = np then c (entry n ds) S else .bad
theorem LamRun.mono {g : Bool} {P : Program} {w : World} {K : PySem.W.Frag} {mg : Str → Option Value} {base : Heap} {j k : Nat} {L : LamT} {F : DFn} (h : LamRun g P w K mg base j L F) (hj : j ≤ k) : LamRun g P w K mg base k L F :=
  ⟨fun f c A outer s H us vs Q E hr => h.run f c A outer s H us vs Q E (hr.mono hj)⟩
theorem lam_b {g : Bool} {P : Program} {w : World} {K : PySem.W.Frag} {mg : Str → Option Value} {base : Heap} {k : Nat} {L : LamT} {N ps : List Str} {c : DEn} (S : FnScope N ps L.scope)
    (hbind : ∀ (pm cv ctv : Value) (us : List Value), us.length = ps.length → bindArgs (PySem.W.kla_fn "<lambda>" L.qual L.params L.body L.scope [] pm cv ctv) ⟨us, []⟩ = pure (ps.zip us))
    (hb : ∀ (cdv : Value) (f : Addr) (A : Around) (outer : List PySem.Env) (s : Shared) (H : Hp) (E : XK), Room k (A.deeper (envOfC L.qual L.scope s.heap.objs.size f cdv)) → (g = true → (A.deeper (envOfC L.qual L.scope s.heap.objs.size f cdv)).guards = some []) →
      Go (cxOf (L2.CX P w) P w K mg base N L.qual L.scope f cdv A outer s H E) (wE E) → SE (cxOf (L2.CX P w) P w K mg base N L.qual L.scope f cdv A outer s H E) (wE E) L.body c) :
    LamRun g P w K mg base (k + 1) L (runE ps.length N.length c) := by
  refine ⟨fun f c' A outer s H us vs Q E hr hgd e0 hf hc r hsp => ?_⟩
  obtain ⟨ι, ds, Sd, hS, hL, q⟩ := hsp
  unfold runE at q
  by_cases hz : ds.length = ps.length
  case neg => rw [if_neg hz] at q; exact q.elim
  rw [if_pos hz] at q
  have hl : vs.length = ps.length := by rw [hL.length]; exact hz
  have lim : s.heap.NoLimit := e0.mod.nolimit.keeps fun b o e => (e0.bs b o e).1
  obtain ⟨pm, ctv, ho⟩ := lamO_at e0.hok hf
  have hcd : s.heap.CodeRec (.ref c') L.qual := NdefX.codeO_at e0.hok hc
  have hkind : ∀ y ∈ ps.zip us, L.scope.names.lookup y.1 = some .local ∨ (L.scope.names.lookup y.1 = some .cell ∧ ((cellsFrom (s.heap.objs.size + 1) L.scope.names []).lookup y.1).isSome = true) := fun ⟨n, v⟩ hy =>
    (S.par n (List.of_mem_zip hy).1).elim .inl fun q => .inr ⟨q, PySem.W.cellsFrom_some _ _ _ (.inl q)⟩
  refine PySem.W.kla_callFunE hr.depth ho rfl S.co S.gen rfl hcd ?_
  show wpAny _ _ (bindArgs (PySem.W.kla_fn "<lambda>" L.qual L.params L.body L.scope [] pm (.ref c') ctv) ⟨us, []⟩) _ _ _
  rw [hbind _ _ _ us (by rw [← r.length]; exact hl)]
  refine wpAny_pure (wpAny_newFunctionEnv_cells S.kind hkind fun env he s1 x => ?_)
  subst he
  refine ⟨lim.keeps x.toInCall.keep, ?_⟩
  have I : L2.Inv (cxOf (L2.CX P w) P w K mg base N L.qual L.scope f (.ref c') A outer s H E) [] (L2.start N vs) H s1 := inv_start S hr.hd e0 hl r x
  have hbody := hb (.ref c') f A outer s H E (hr.deeper _) hgd ⟨rfl, S.nd, cx_hp, takes_of rfl rfl rfl rfl⟩
  refine PySem.W.kla_codeExpr (wpAny_mono (hbody.run [] s1 (L2.start N vs) H Q I ⟨ι, entry N.length ds, Sd, hS, entry_rep hL, q⟩) (fun v s' hq => ?_) fun e s' hq => hq)
  obtain ⟨w', H', J', rv, q⟩ := hq
  exact ⟨w', H', J'.os, J'.bare, J'.base, J'.hok, rv, q⟩
open Classical in
/-- the lambda's def, by its text -/
noncomputable def appL : List (LamT × DFn) → LamT → DFn
  | [], _ => fun _ _ => .bad
  | p :: r, L => if L = p.1 then p.2 else appL r L
theorem appL_hd {p : LamT × DFn} {r : List (LamT × DFn)} : appL (p :: r) p.1 = p.2 := by
  unfold appL
  exact if_pos rfl
theorem appL_tl {p : LamT × DFn} {r : List (LamT × DFn)} {L : LamT} (h : L ≠ p.1) : appL (p :: r) L = appL r L := by
  rw [appL]
  exact if_neg h
noncomputable def cCallV (tab : List (LamT × DFn)) (i : Nat) (a : DAn) : DEn := fun env S => match env[i]? with
  | some (some (.lam L)) => (a env S).bind (appL tab L)
  | _ => .bad
theorem appL_some : ∀ {tab : List (LamT × DFn)} {L : LamT}, (∃ p ∈ tab, p.1 = L ∧ appL tab L = p.2) ∨ appL tab L = fun _ _ => .bad
  | [], L => .inr rfl
  | p :: r, L => by
    by_cases h : L = p.1
    · subst h
      exact .inl ⟨p, List.mem_cons_self, rfl, appL_hd⟩
    · rw [appL_tl h]
      rcases appL_some (tab := r) (L := L) with ⟨p', h1, h2, h3⟩ | h3
      · exact .inl ⟨p', List.mem_cons_of_mem _ h1, h2, h3⟩
      · exact .inr h3
section
variable {g : Bool} {X : Cx} {W : WX} {e : Expr} {es : List Expr} {x : Str} {p pos : Pos} {cs : DAn} {k : Nat}
theorem se_callv {tab : List (LamT × DFn)} (gX : Go X W) (i : Nat) (hT : ∀ q ∈ tab, LamRun g X.prog X.w X.K X.mg X.base k q.1 q.2) (hr : Room k X.A) (hgd : g = true → X.A.guards = some []) (ha : SA X W (e :: es) cs) (hN : X.N[i]? = some x := by rfl)
    (hv : Vis X.env.scope x := by first | exact Or.inl rfl | exact Or.inr (Or.inl rfl) | exact Or.inr (Or.inr rfl)) (hd : (x == ("__debug__" : Str)) = false := by decide) (hcd : (x == ("__classdict__" : Str)) = false := by decide)
    (he : starEach (e :: es) X.env = (false, eval e X.env) :: starEach es X.env := by rfl) (hpl : (backTo pos (starEach es X.env)).any (·.1) = false := by rfl) :
    SE X W (.Call (.Name x p) (e :: es) [] pos) (cCallV tab i cs) := by
  refine ⟨fun pins s σ H Q I h => ?_⟩
  obtain ⟨ι, env, S, hS, hE, q⟩ := h
  cases ei : env[i]? with
  | none => simp only [cCallV, ei] at q; exact q.elim
  | some o =>
    cases o with
    | none => simp only [cCallV, ei] at q; exact q.elim
    | some d =>
      cases d with
      | lam L =>
        simp only [cCallV, ei] at q
        obtain ⟨v, hs, rv⟩ := hE.at_ i _ ei
        cases rv with
        | @lam f c _ hf nf hc nc =>
          refine wpAny_Call_Name_kw (thn ((pe_var (pos := p) hN hv hd hcd).run pins s σ H (fun v H1 => v = .ref f ∧ H1 = H) I ⟨.ref f, hs, rfl, rfl⟩) fun u s1 ⟨v, H1, I1, r1, q1⟩ => ?_)
          obtain ⟨ev, eH⟩ := q1
          subst ev
          rw [eH] at I1
          obtain rfl : u = Value.ref f := r1
          have at_ : ∀ {s2 : Shared} {H2 : Hp} {σ2 : L2.St} {pn : List (Addr × Obj)}, L2.Inv X pn σ2 H2 s2 → H2 f = some (LamO f L c) → PySem.W.FnAt f s2.heap := fun I2 e2 => by
            obtain ⟨pm, ctv, ho⟩ := lamO_at I2.hok e2
            exact ⟨_, _, _, _, ho⟩
          refine PySem.W.callWith_F (first := []) (at_ I1 hf) (thn (ha.run pos pins s1 σ H _ I1 (tDA.seq hS hE q fun ι1 H1 vs ds S1 _ x1 s1 e1 r1 q1 =>
            (show (H1 f = some (LamO f L c) ∧ H1 c = some (CodeO c L.qual)) ∧ spD X.K X.mg (appL tab L) vs H1 Q (L2.WE W σ) from ⟨⟨(x1.mo.keep _ _ hf lamO_ne nf).1, (x1.mo.keep _ _ hc codeO_ne nc).1⟩, ι1, ds, S1, s1, r1, q1⟩))) fun us s2 ⟨vs, H2, I2, r, h1, q⟩ => ⟨at_ I2 h1.1, ?_⟩) he hpl
          show wpAny _ _ (call (.ref f) us) _ _ _
          rcases appL_some (tab := tab) (L := L) with ⟨p', m1, m2, m3⟩ | m3
          · rw [m3] at q
            refine wpAny_call (codeAny_mono ((hT p' m1).run f c X.A X.stack s2 H2 us vs Q (L2.WE W σ) hr hgd I2.env0 (by rw [m2]; exact h1.1) (by rw [m2]; exact h1.2) r q) fun r s' hq => ?_)
            cases r with
            | error e => exact passAt gX.tk σ pins H2 s2 e s' I2 hq
            | ok fl =>
              cases fl with
              | ret u => exact I2.after hq
              | _ => exact False.elim hq
          · rw [m3] at q
            obtain ⟨_, _, _, _, _, z⟩ := q
            exact z.elim
      | _ => simp only [cCallV, ei] at q; exact q.elim
/-- lambda a, ..: e -/
theorem se_lam {x : Str} {params : Arguments} {body : Expr} {scope : Scope} {q : Str} (T : TabF X.K X.mg X.base) (hcode : X.env.code = .ref (He.cT X.K (x, none)).1) (hx : (x, q) ∈ TBL) (hm : X.mg x ≠ none) (hq : X.env.qual ++ "<lambda>" = q) (hdef : defaultsOf params X.env = ([], [])) (hnf : ∀ y ∈ scope.names, y.2 ≠ .free) :
    SE X W (.Lambda params body scope pos) (cK (.lam ⟨q, params, body, scope⟩)) := by
  refine ⟨fun pins s σ H Q I h => ?_⟩
  obtain ⟨ι, env, S, hS, hE, qq⟩ := h
  have qq : Aft X.K X.mg (RepV X.K X.mg) (fun cls dd H' => W cls dd σ H') ι H (.ok (.lam ⟨q, params, body, scope⟩) S) Q := qq
  have TB := T.tb _ hx hm
  obtain ⟨nP1, nP2, ps, hP, ht, ha⟩ := hS.tab _ hx hm
  have hfree : ∀ y ∈ scope.names, y.2 = .free → ∃ c, X.env.cells.lookup y.1 = some c := fun y hy e => absurd e (hnf y hy)
  refine PySem.W.kla_eval hdef ?_
  rw [hq]
  have bP : s.heap.BuiltinsAt X.mg (He.cT X.K (x, none)).2 := TB.bm.keeps I.bk
  have hP' : s.heap.get? (He.cT X.K (x, none)).2 = some { cls := .none, data := .fields ps } := I.hok _ _ hP
  have hcl : closureFor scope X.env = pure [] := by
    have := closure_ok (env := X.env) hfree
    rw [cloFrom_nil hnf] at this
    exact this
  cases hc : codeAmong pos ps.toList with
  | none =>
    refine PySem.W.kla_makeFunction (mg := X.mg) (c := (He.cT X.K (x, none)).1) (P := (He.cT X.K (x, none)).2) (ps := ps) hcl I.ok.glob (I.mod.glob.keeps I.bk) hcode (TB.code.keeps I.bk) hP' ht hc TB.gP bP fun c' ctv h' tk hx' hge hlt hrec htb => ?_
    obtain ⟨c2, oc, vs, t, e2, hoc, hd, hv⟩ := hrec
    cases e2
    have nC : H c' = none := I.hok.fresh hge
    have I1 := inv_table (q := q) (t' := tk) (more := #[rawInt pos.line, rawInt pos.col, .ref c']) (h' := h') I hP (fun b o hb e => hx' b o hb e) htb hge ⟨oc, vs, t, hoc, hd, hv⟩
    obtain ⟨x1, s1⟩ := sim_tab (pos := pos) T hS hx hm hP ht nC
    have I2 := inv_lam (L := ⟨q, params, body, scope⟩) (c' := c') (t' := tk) (pm := (X.mg "__name__").getD .none) (ctv := ctv) I1
    have nF := I1.hok.fresh (Nat.le_refl _)
    refine ⟨.ref h'.objs.size, _, I2, rfl, qq ι _ (.ref h'.objs.size) (x1.trans (Ext.new nF)) (s1.new nF) (.lam upd_same (s1.fresh nF) ?_ (hS.fresh nC))⟩
    rw [upd_ne (Nat.ne_of_lt hlt), upd_same]
  | some cv =>
    obtain ⟨c', e, hco, nco⟩ := ha pos cv hc
    subst e
    refine PySem.W.kla_makeFunctionHit (mg := X.mg) (c := (He.cT X.K (x, none)).1) (P := (He.cT X.K (x, none)).2) (ps := ps) hcl I.ok.glob (I.mod.glob.keeps I.bk) hcode (TB.code.keeps I.bk) hP' ht hc bP fun ctv h' tk hx' hsz => ?_
    have I1 : L2.Inv X pins σ H { s with heap := h', toks := tk } := I.kept hx'
    have nF : H h'.objs.size = none := I1.hok.fresh (Nat.le_refl _)
    have I2 := inv_lam (L := ⟨q, params, body, scope⟩) (c' := c') (t' := tk) (pm := (X.mg "__name__").getD .none) (ctv := ctv) I1
    refine ⟨.ref h'.objs.size, _, I2, rfl, qq ι _ (.ref h'.objs.size) (Ext.new nF) (hS.new nF) (.lam upd_same (hS.fresh nF) ?_ nco)⟩
    rw [upd_ne (ne_of_none hco nF)]
    exact hco
end
end DL
end

section
set_option Elab.async false
set_option linter.all false
set_option maxRecDepth 100000
set_option maxHeartbeats 4000000
set_option autoImplicit false
/-! classes: objects whose fields are set by __init__ alone -/
namespace DL
open PySem PySem.Spec PyProof.Rows L2 LamX
/-- a def, its code object told -/
theorem fn_bl {g : Bool} {P : Program} {w : World} {K : PySem.W.Frag} {mg : Str → Option Value} {base : Heap} {x qual : Str} {params : Arguments} {body : List Stmt} {scope : Scope} {dvs : List V} {kws : List (Str × V)} {f : Addr} {fd : FuncData} {N ps : List Str} {k : Nat} {c : DSn}
    (F : FunD K x qual params body scope dvs kws f fd) (S : FnScope N ps scope) (hf : f = He.ga K x)
    (hb : ∀ (cdv : Value) (A : Around) (outer : List PySem.Env) (s : Shared) (H : Hp) (E : XK), cdv = .ref (He.cT K (x, none)).1 → Room k (A.deeper (envOfC qual scope s.heap.objs.size f cdv)) → (g = true → (A.deeper (envOfC qual scope s.heap.objs.size f cdv)).guards = some []) →
      Go (cxOf (L2.CX P w) P w K mg base N qual scope f cdv A outer s H E) (wE E) → SSs (cxOf (L2.CX P w) P w K mg base N qual scope f cdv A outer s H E) (wE E) body c) :
    FnB g P w K mg base (L2.CX P w) (k + 1) f fd ps (spD K mg (runF ps.length N.length c)) := by
  obtain ⟨oc, od, dV, kV, doc, pm, an, cdv, ct, osl, rfl, lk, hcd, _, _⟩ := F.ex
  have hc : cdv = .ref (He.cT K (x, none)).1 := by
    obtain ⟨c0, e⟩ := He.codeIn_ref hcd
    have e1 : He.fAd K (x, none) = f := hf.symm
    have e2 := He.codeOf_eq (p := (x, none)) (by rw [e1]; exact lk) e
    rw [e]
    show Value.ref c0 = Value.ref (He.codeOf K (x, none))
    rw [e2]
  refine ⟨fun vs H Q E h => ?_, fun A outer s H args us vs Q E hr hgd e0 hbd r hsp => ?_⟩
  · obtain ⟨ι, ds, S, hS, hL, q⟩ := h
    unfold runF at q
    by_cases hz : ds.length = ps.length
    · rw [hL.length]; exact hz
    · rw [if_neg hz] at q
      exact q.elim
  obtain ⟨ι, ds, Sd, hS, hL, q⟩ := hsp
  unfold runF at q
  by_cases hz : ds.length = ps.length
  case neg => rw [if_neg hz] at q; exact q.elim
  rw [if_pos hz] at q
  have hl : vs.length = ps.length := by rw [hL.length]; exact hz
  have KX : K.In s.heap := e0.mod.kin.keeps fun b o e => (e0.bs b o e).1
  have lim : s.heap.NoLimit := e0.mod.nolimit.keeps fun b o e => (e0.bs b o e).1
  have hkind : ∀ y ∈ ps.zip us, scope.names.lookup y.1 = some .local ∨ (scope.names.lookup y.1 = some .cell ∧ ((cellsFrom (s.heap.objs.size + 1) scope.names []).lookup y.1).isSome = true) := fun ⟨n, v⟩ hy =>
    (S.par n (List.of_mem_zip hy).1).elim .inl fun q => .inr ⟨q, PySem.W.cellsFrom_some _ _ _ (.inl q)⟩
  refine codeAny_call_function hr.depth (KX _ _ lk) rfl S.co S.gen rfl (PySem.W.codeRec_of KX hcd) (hbd _ _ _ _ (wpAny_newFunctionEnv_cells S.kind hkind fun env he s1 x => ?_))
  subst he
  refine ⟨lim.keeps x.toInCall.keep, codeAny_func ?_⟩
  have ht := hb cdv A outer s H E hc (hr.deeper _) hgd ⟨rfl, S.nd, cx_hp, takes_of rfl rfl rfl rfl⟩
  have I : L2.Inv (cxOf (L2.CX P w) P w K mg base N qual scope f cdv A outer s H E) [] (L2.start N vs) H s1 := inv_start S hr.hd e0 hl r x
  have hq : tDS K mg (wE E) c { nx := fun _ H' => Q .non H', rt := Q } (L2.start N vs) H := by
    refine ⟨ι, entry N.length ds, Sd, hS, entry_rep hL, ?_⟩
    revert q
    cases c (entry N.length ds) Sd with
    | nx env S' => exact fun q ι' H' σ' x s e => q ι' H' .non x s .non
    | ret d S' => exact fun q => q
    | exn e env S' => exact fun q ι' H' σ' cls dd x s _ r => q ι' H' cls dd x s r
    | _ => exact fun q => q.elim
  refine wpAny_mono (ht.run [] s1 (L2.start N vs) H _ I hq) (fun fl s' hs => ?_) fun e s' hs => hs
  cases fl with
  | ret u =>
    obtain ⟨v, σ', H', J, rv, q⟩ := hs
    exact ⟨v, H', J.os, J.bare, J.base, J.hok, rv, q⟩
  | next =>
    obtain ⟨σ', H', J, q⟩ := hs
    exact ⟨V.non, H', J.os, J.bare, J.base, J.hok, rfl, q⟩
  | brk =>
    obtain ⟨σ', H', _, q⟩ := hs
    exact q.elim
  | cont =>
    obtain ⟨σ', H', _, q⟩ := hs
    exact q.elim

/-- the lambda that a def hands on as its call's second argument -/
def lamT (st : Stmt) (q : Str) : LamT := match defBody st with
  | [.Return (some (.Call _ [_, .Lambda params body scope _] _ _)) _] => ⟨q, params, body, scope⟩
  | _ => ⟨q, defArgs st, .Constant .none 0 ⟨0, 0, 0, 0⟩, defScope st⟩
/-! ### what is known of a class -/
structure ClsK (K : PySem.W.Frag) (mg : Str → Option Value) (C : Str) (fs : List Str) : Prop where
  m : mg C = some (.ref (He.ga K C))
  cls : Cls K (He.ga K C)
  no : ∀ f ∈ fs, NoAttr K (He.ga K C) f
  ha : PySem.W.findIn K (.ref (He.ga K C)) "__class__" = some (some (.builtin "object.__class__"))
  hn : PySem.W.specialIn K (.builtin "object.__class__") "__get__" = some (some (.builtin "getset_descriptor.__get__"))
  htk : PySem.W.takesIn K (.builtin "object.__class__") = some true
  hm : PySem.W.mroIn K (He.ga K C) (.type "object") = some true
theorem clsK_of {K : PySem.W.Frag} {mg : Str → Option Value} {C : Str} {fs : List Str} (m : mg C = some (.ref (He.ga K C))) (c : Cls K (He.ga K C)) (no : ∀ f ∈ fs, NoAttr K (He.ga K C) f) (h : clsB K C = true) : ClsK K mg C fs := by
  unfold clsB at h
  obtain ⟨h1, h2⟩ := He.ba h
  obtain ⟨h3, h4⟩ := He.ba h2
  obtain ⟨h5, h6⟩ := He.ba h4
  exact ⟨m, c, no, He.eqO_ok h1, He.eqO_ok h3, of_decide_eq_true h5, of_decide_eq_true h6⟩

/-! ### o.f -/
def fldOf (f : Str) (C : Str) (Cs : List Str) (ns : List Str) (ds : List D) : Option D := if C ∈ Cs then (ns.zip ds).lookup f else none
def fldD (Cs : List Str) (f : Str) (x : D) (S : Sto) : Res D := match x with
  | .obj C ns ds => (match fldOf f C Cs ns ds with
    | some d => .ok d S
    | none => .bad)
  | .cel n => (match S[n]? with
    | some (.ins C ns ds) => (match fldOf f C Cs ns ds with
      | some d => .ok d S
      | none => .bad)
    | _ => .bad)
  | _ => .bad
section
variable {K : PySem.W.Frag} {mg : Str → Option Value} {ι : Nm} {H : Hp} {S : Sto}
theorem RepL.look {f : Str} : ∀ {ns : List Str} {vs : List V} {ds : List D} {d : D}, RepL K mg ι H vs ds → (ns.zip ds).lookup f = some d → ∃ v, (ns.zip vs).lookup f = some v ∧ RepV K mg ι H v d
  | [], _, _, _, _, h => by cases h
  | n :: ns, _, [], _, _, h => by cases h
  | n :: ns, _, d0 :: ds, d, r, h => by
    cases r with
    | @cons v vs _ _ a b =>
      have h2 : (match f == n with | true => some d0 | false => (ns.zip ds).lookup f) = some d := h
      show ∃ w, (match f == n with | true => some v | false => (ns.zip vs).lookup f) = some w ∧ _
      cases e : f == n with
      | true =>
        rw [e] at h2
        cases h2
        exact ⟨v, rfl, a⟩
      | false =>
        rw [e] at h2
        exact RepL.look b h2
end
section
variable {X : Cx} {W : WX} {e : Expr} {f : Str} {pos : Pos} {ce : DEn}
theorem se_fld {Cs : List Str} (hC : ∀ C ∈ Cs, ∃ fs, ClsK X.K X.mg C fs ∧ f ∈ fs) (he : SE X W e ce) (hb : attributeBase e f X.env (eval e X.env) = eval e X.env := by rfl) : SE X W (.Attribute e f pos) (cUn (fldD Cs f) ce) := PE.weak (pe_fld he hb) fun σ H Q h => by
  obtain ⟨ι, env, S, hS, hE, q⟩ := h
  refine tD.seq hS hE q fun ι1 H1 x d S1 _ x1 s1 e1 r1 q1 => ?_
  cases d with
  | obj C ns ds =>
    simp only [fldD] at q1
    cases r1 with
    | @obj a Ca dx _ _ vs _ m r n len l =>
      unfold fldOf at q1
      by_cases hc : C ∈ Cs
      case neg => rw [if_neg hc] at q1; exact q1.elim
      rw [if_pos hc] at q1
      cases el : (ns.zip ds).lookup f with
      | none => rw [el] at q1; exact q1.elim
      | some d =>
        rw [el] at q1
        obtain ⟨fs, c, hf⟩ := hC C hc
        rw [c.m] at m
        cases m
        obtain ⟨v, lv, rv⟩ := l.look el
        exact ⟨a, _, dx, ns.zip vs, v, rfl, r, c.cls, c.no f hf, lv, Aft.done q1 s1 rv⟩
  | cel n =>
    simp only [fldD] at q1
    cases ec : S1[n]? with
    | none => rw [ec] at q1; exact q1.elim
    | some cl =>
      rw [ec] at q1
      cases cl with
      | lst _ => exact q1.elim
      | dct _ _ => exact q1.elim
      | ins C ns ds =>
        simp only at q1
        unfold fldOf at q1
        by_cases hc : C ∈ Cs
        case neg => rw [if_neg hc] at q1; exact q1.elim
        rw [if_pos hc] at q1
        cases el : (ns.zip ds).lookup f with
        | none => rw [el] at q1; exact q1.elim
        | some d =>
          rw [el] at q1
          cases r1 with
          | @cel _ a ha =>
            obtain ⟨Ca, dx, vs, m, r, len, l⟩ := s1.at_ n _ a ec ha
            obtain ⟨fs, c, hf⟩ := hC C hc
            rw [c.m] at m
            cases m
            obtain ⟨v, lv, rv⟩ := l.look el
            exact ⟨a, _, dx, ns.zip vs, v, rfl, r, c.cls, c.no f hf, lv, Aft.done q1 s1 rv⟩
  | _ => exact q1.elim
end

/-! ### isinstance(x, C), C an own class -/
def fIsiC (Cs : List Str) : DFn := fun ds S => match ds with
  | [.obj C _ _, .glo C'] => if C = C' ∧ C ∈ Cs then .ok (.bl true) S else .bad
  | [.cel n, .glo C'] => (match S[n]? with
    | some (.ins C _ _) => if C = C' ∧ C ∈ Cs then .ok (.bl true) S else .bad
    | _ => .bad)
  | _ => .bad
theorem kit_same {K : PySem.W.Frag} {a : Addr} : PySem.W.kitOne K (.ref a) (.ref a) = some true := by
  unfold PySem.W.kitOne
  rw [if_pos (by simp)]
section
variable {X : Cx}
theorem p_isiC {Cs : List Str} (hC : ∀ C ∈ Cs, ∃ fs, ClsK X.K X.mg C fs) : PN X.K X.mg (rIsi X.K) (fIsiC Cs) := by
  intro ι H S xs vs We Q hS rx q
  unfold fIsiC at q
  split at q
  · rename_i C ns ds C'
    obtain ⟨v, u, rfl, r1, r2⟩ := rx.two
    by_cases h : C = C' ∧ C ∈ Cs
    case neg => rw [if_neg h] at q; exact q.elim
    rw [if_pos h] at q
    obtain ⟨rfl, hc⟩ := h
    obtain ⟨fs, c⟩ := hC C hc
    cases r1 with
    | @obj a Ca dx _ _ vs _ m r n len l =>
      cases r2 with
      | glo m2 =>
        rw [c.m] at m m2
        cases m
        cases m2
        exact ⟨_, _, _, _, true, rfl, .own _, .base (.ins r c.cls c.ha c.hn c.htk c.hm), kit_same, Aft.done q hS (.bl true)⟩
  · rename_i n C'
    obtain ⟨v, u, rfl, r1, r2⟩ := rx.two
    cases ec : S[n]? with
    | none => rw [ec] at q; exact q.elim
    | some cl =>
      rw [ec] at q
      cases cl with
      | lst _ => exact q.elim
      | dct _ _ => exact q.elim
      | ins C ns ds =>
        simp only at q
        by_cases h : C = C' ∧ C ∈ Cs
        case neg => rw [if_neg h] at q; exact q.elim
        rw [if_pos h] at q
        obtain ⟨rfl, hc⟩ := h
        obtain ⟨fs, c⟩ := hC C hc
        cases r1 with
        | @cel _ a ha =>
          obtain ⟨Ca, dx, vs, m, r, len, l⟩ := hS.at_ n _ a ec ha
          cases r2 with
          | glo m2 =>
            rw [c.m] at m m2
            cases m
            cases m2
            exact ⟨_, _, _, _, true, rfl, .own _, .base (.ins r c.cls c.ha c.hn c.htk c.hm), kit_same, Aft.done q hS (.bl true)⟩
  · exact q.elim
end

/-! ### an object is made -/
/-- all but p stays -/
structure ExtP (p : Addr) (ι : Nm) (H : Hp) (ι' : Nm) (H' : Hp) : Prop where
  pre : ∃ m, ι'.ns = ι.ns ++ m
  hid : ι'.hid = ι.hid
  keep : ∀ a o, H a = some o → NoT o → a ≠ p → a ∉ ι.ns → H' a = some o ∧ a ∉ ι'.ns
  trk : ∀ a, H a ≠ none → H' a ≠ none
theorem ExtP.refl (p : Addr) (ι : Nm) (H : Hp) : ExtP p ι H ι H := ⟨⟨[], (List.append_nil ι.ns).symm⟩, rfl, fun _ _ h _ _ n => ⟨h, n⟩, fun _ h => h⟩
theorem ExtP.trans {p : Addr} {ι ι1 ι2 : Nm} {H H1 H2 : Hp} (a : ExtP p ι H ι1 H1) (b : ExtP p ι1 H1 ι2 H2) : ExtP p ι H ι2 H2 := by
  obtain ⟨m, e⟩ := a.pre
  obtain ⟨m', e'⟩ := b.pre
  refine ⟨⟨m ++ m', by rw [e', e, List.append_assoc]⟩, b.hid.trans a.hid, fun c o h t d n => ?_, fun c h => b.trk c (a.trk c h)⟩
  obtain ⟨h1, n1⟩ := a.keep c o h t d n
  exact b.keep c o h1 t d n1
theorem ExtP.wr {p : Addr} {ι : Nm} {H : Hp} {o : HO} : ExtP p ι H ι (upd H p o) := ⟨⟨[], (List.append_nil ι.ns).symm⟩, rfl, fun c u h _ d n => ⟨by rw [upd_ne d]; exact h, n⟩, fun _ => upd_trk⟩
theorem Ext.toP {p : Addr} {ι ι1 : Nm} {H H1 : Hp} (x : Ext (ι.hide p) H ι1 H1) : ∃ ι2 : Nm, ι1 = ι2.hide p ∧ ι2.hid = ι.hid ∧ ExtP p ι H ι2 H1 := by
  obtain ⟨ns, hid⟩ := ι1
  have e : hid = p :: ι.hid := x.hid
  subst e
  exact ⟨⟨ns, ι.hid⟩, rfl, rfl, ⟨x.pre, rfl, fun a o h t _ n => x.keep a o h t n, x.trk⟩⟩
def AftI (K : PySem.W.Frag) (mg : Str → Option Value) (W : WX) (p Ca dx : Addr) (ns : List Str) (us : List V) (n1 : Nat) (es0 : List D) (ι : Nm) (H : Hp) (r : Res (List D)) (E : Ends) : Prop := match r with
  | .ok es S' => ∀ ι' H' vs σ', ExtP p ι H ι' H' → SimS K mg (ι'.hide p) H' S' → H' p = some (.ins Ca dx (ns.zip (us ++ vs))) → vs.length = n1 → RepL K mg (ι'.hide p) H' (us ++ vs) (es0 ++ es) → E.nx σ' H'
  | .exn x S' => ∀ ι' H' σ' cls dd, ExtP p ι H ι' H' → SimS K mg (ι'.hide p) H' S' → RepX K mg (ι'.hide p) H' x cls dd → W cls dd σ' H'
  | .bad => False
def tI (K : PySem.W.Frag) (mg : Str → Option Value) (W : WX) (ns0 ns1 : List Str) (c : DAn) : TS := fun E σ H => ∃ ι env S p dx Ca us es0, p ∉ ι.ns ∧ p ∉ ι.hid ∧ SimS K mg (ι.hide p) H S ∧ RepE K mg (ι.hide p) H σ env ∧ env[0]? = some (some (.adr p)) ∧ H p = some (.ins Ca dx (ns0.zip us)) ∧ us.length = ns0.length ∧
  RepL K mg (ι.hide p) H us es0 ∧ Cls K Ca ∧ (∀ f ∈ ns1, NoAttr K Ca f) ∧ AftI K mg W p Ca dx (ns0 ++ ns1) us ns1.length es0 ι H (c env S) E
section
variable {K : PySem.W.Frag} {mg : Str → Option Value} {W : WX} {p Ca dx : Addr} {ns : List Str} {us : List V} {n1 : Nat} {es0 : List D} {ι ι' : Nm} {H H' : Hp} {E : Ends}
theorem AftI.ext {r : Res (List D)} (x : ExtP p ι H ι' H') (h : AftI K mg W p Ca dx ns us n1 es0 ι H r E) : AftI K mg W p Ca dx ns us n1 es0 ι' H' r E := by
  cases r with
  | ok d S' => exact fun ι2 H2 v σ y => h ι2 H2 v σ (x.trans y)
  | exn e S' => exact fun ι2 H2 σ c dd y => h ι2 H2 σ c dd (x.trans y)
  | bad => exact h
end
theorem putF_new {f : Str} {y : V} : ∀ {ns : List Str} {us : List V}, f ∉ ns → us.length = ns.length → putF f y (ns.zip us) = (ns ++ [f]).zip (us ++ [y])
  | [], [], _, _ => rfl
  | [], _ :: _, _, h => by cases h
  | _ :: _, [], _, h => by cases h
  | n :: ns, u :: us, hf, h => by
    show (if n = f then (n, y) :: ns.zip us else (n, u) :: putF f y (ns.zip us)) = (n, u) :: (ns ++ [f]).zip (us ++ [y])
    rw [if_neg (fun z => hf (by rw [z]; exact List.mem_cons_self)), putF_new (fun z => hf (List.mem_cons_of_mem _ z)) (by simpa using h)]
/-- a statement ahead of the fields -/
def preI (s : DSn) (c : DAn) : DAn := fun env S => match s env S with
  | .nx env' S' => (match (env[0]? : Option (Option D)), (env'[0]? : Option (Option D)) with
    | some (some (D.adr a)), some (some (D.adr b)) => if a = b then c env' S' else .bad
    | _, _ => .bad)
  | .exn x _ S' => .exn x S'
  | _ => .bad
section
variable {X : Cx} {W : WX} {st : Stmt} {rest : List Stmt} {e : Expr} {pos p1 p2 : Pos} {ce : DEn} {cs : DAn} {s1 : DSn} {ns0 ns1 : List Str} {x f : Str}
theorem si_nil : PSs X [] (tI X.K X.mg W ns0 [] cNil) := PSs.weak pss_nil fun D σ H h => by
  obtain ⟨ι, env, S, p, dx, Ca, us, es0, n1, n2, hS, hE, h0, hp, hl, l, c, no, q⟩ := h
  refine q ι H [] σ (ExtP.refl _ _ _) hS ?_ rfl (by rw [List.append_nil, List.append_nil]; exact l)
  rw [List.append_nil, List.append_nil]
  exact hp
theorem si_pre (h1 : SS X W st s1) (h2 : PSs X rest (tI X.K X.mg W ns0 ns1 cs)) : PSs X (st :: rest) (tI X.K X.mg W ns0 ns1 (preI s1 cs)) := PSs.weak (pss_cons h1 h2) fun D σ H h => by
  obtain ⟨ι, env, S, p, dx, Ca, us, es0, n1, n2, hS, hE, h0, hp, hl, l, c, no, q⟩ := h
  refine ⟨ι.hide p, env, S, hS, hE, ?_⟩
  unfold preI at q
  cases er : s1 env S with
  | nx env' S' =>
    rw [er, h0] at q
    intro ι1 H1 σ1 x1 sS sE
    simp only at q
    split at q
    · rename_i a b ea eb
      cases ea
      by_cases hab : p = b
      case neg => rw [if_neg hab] at q; exact q.elim
      subst hab
      rw [if_pos rfl] at q
      obtain ⟨ι2, rfl, e2, xp⟩ := x1.toP
      have hm := hS.hid p List.mem_cons_self
      have kp := x1.keep p _ hp (fun ps z => by cases z) hm.2
      exact ⟨ι2, env', S', p, dx, Ca, us, es0, kp.2, by rw [e2]; exact n2, sS, sE, eb, kp.1, hl, l.ext x1, c, no, q.ext xp⟩
    · exact q.elim
  | exn ex env' S' =>
    rw [er] at q
    intro ι1 H1 σ1 cls dd x1 sS sE rx
    obtain ⟨ι2, rfl, e2, xp⟩ := x1.toP
    exact q ι2 H1 σ1 cls dd xp sS rx
  | ret d S' => rw [er] at q; exact q.elim
  | brk env' S' => rw [er] at q; exact q.elim
  | cnt env' S' => rw [er] at q; exact q.elim
  | bad => rw [er] at q; exact q.elim
theorem si_fld (he : SE X W e ce) (hr : PSs X rest (tI X.K X.mg W (ns0 ++ [f]) ns1 cs)) (hf : f ∉ ns0 := by decide) (hl : ns0.length < 1000 := by decide) (hN : X.N[0]? = some x := by rfl)
    (hv : Vis X.env.scope x := by first | exact Or.inl rfl | exact Or.inr (Or.inl rfl) | exact Or.inr (Or.inr rfl)) (hd : (x == ("__debug__" : Str)) = false := by decide) (hcd : (x == ("__classdict__" : Str)) = false := by decide)
    (hs : swapsWith e (some (.Attribute (.Name x p1) f p2)) pos.line X.env = pure false := by rfl) :
    PSs X (.Assign [.Attribute (.Name x p1) f p2] e pos :: rest) (tI X.K X.mg W ns0 (f :: ns1) (cCons ce cs)) := PSs.weak (pss_cons (ps_fld (pe_var (pos := p1) hN hv hd hcd) he hs) hr) fun D σ H h => by
  obtain ⟨ι, env, S, p, dx, Ca, us, es0, n1, n2, hS, hE, h0, hp, hlen, l, c, no, q⟩ := h
  refine ⟨ι.hide p, env, S, hS, hE, ?_⟩
  unfold cCons at q
  cases er : ce env S with
  | bad => rw [er] at q; exact q.elim
  | exn ex S' =>
    rw [er] at q
    intro ι1 H1 cls dd x1 sS rx
    obtain ⟨ι2, rfl, e2, xp⟩ := x1.toP
    exact q ι2 H1 σ cls dd xp sS rx
  | ok d S' =>
    rw [er] at q
    intro ι1 H1 y x1 sS ry
    obtain ⟨ι2, rfl, e2, xp⟩ := x1.toP
    have hm := hS.hid p List.mem_cons_self
    have kp := x1.keep p _ hp (fun ps z => by cases z) hm.2
    obtain ⟨v0, hv0, rv0⟩ := (hE.ext x1).at_ 0 _ h0
    cases rv0
    refine ⟨_, hv0, p, Ca, dx, ns0.zip us, rfl, kp.1, c, no f List.mem_cons_self, by rw [List.length_zip]; omega, ?_⟩
    rw [putF_new hf hlen]
    refine ⟨ι2, env, S', p, dx, Ca, us ++ [y], es0 ++ [d], kp.2, by rw [e2]; exact n2, sS.wrHid, (hE.ext x1).mo Mo.wrHid, h0, upd_same, by simp [hlen], ?_, c, fun g hg => no g (List.mem_cons_of_mem _ hg), ?_⟩
    · exact RepL.mo Mo.wrHid _ _ ((l.ext x1).append (.cons ry .nil))
    · have q2 := q
      simp only [bind_ok] at q2
      have q3 := (AftI.ext xp q2).ext (ExtP.wr (p := p) (ι := ι2) (H := H1) (o := .ins Ca dx ((ns0 ++ [f]).zip (us ++ [y]))))
      revert q3
      cases cs env S' with
      | ok es S2 =>
        intro q3 ι3 H3 vs σ3 x3 s3 h3 l3 r3
        refine q3 ι3 H3 (y :: vs) σ3 x3 s3 ?_ (by simp [l3]) ?_
        · rw [h3]
          simp
        · simpa using r3
      | exn ex S2 => exact fun q3 => q3
      | bad => exact fun q3 => q3
end
/-- an __init__'s promise: the fields -/
def spI (K : PySem.W.Frag) (mg : Str → Option Value) (C : Str) (ns : List Str) (F : Addr → List D → Sto → Res (List D)) : Sp := fun vs H Q E => ∃ ι p dx us ds S, vs = .ref p :: us ∧ p ∉ ι.ns ∧ p ∉ ι.hid ∧ H p = some (.ins (He.ga K C) dx []) ∧ SimS K mg (ι.hide p) H S ∧ RepL K mg (ι.hide p) H us ds ∧
  AftI K mg (fun cls dd _ H' => E cls dd H') p (He.ga K C) dx ns [] ns.length [] ι H (F p ds S) { nx := fun _ H' => Q .non H', rt := fun _ _ => False }
def initF (np n : Nat) (c : DAn) : Addr → List D → Sto → Res (List D) := fun p ds S => if ds.length + 1 = np then c (entry n (.adr p :: ds)) S else .bad
theorem init_b {P : Program} {w : World} {K : PySem.W.Frag} {mg : Str → Option Value} {base : Heap} {C x qual : Str} {params : Arguments} {body : List Stmt} {scope : Scope} {dvs : List V} {kws : List (Str × V)} {f : Addr} {fd : FuncData} {N ps ns fs : List Str} {k : Nat} {c : DAn}
    (F : FunD K x qual params body scope dvs kws f fd) (S : FnScope N ps scope) (hC : ClsK K mg C fs) (hns : ∀ f ∈ ns, f ∈ fs)
    (hb : ∀ (cdv : Value) (A : Around) (outer : List PySem.Env) (s : Shared) (H : Hp) (E : XK), Room k (A.deeper (envOfC qual scope s.heap.objs.size f cdv)) →
      Go (cxOf (L2.CX P w) P w K mg base N qual scope f cdv A outer s H E) (wE E) → PSs (cxOf (L2.CX P w) P w K mg base N qual scope f cdv A outer s H E) body (tI K mg (wE E) [] ns c)) :
    FnOk P w K mg base (L2.CX P w) (k + 1) f fd ps (spI K mg C ns (initF ps.length N.length c)) := by
  refine F.ok S (fun vs H Q E h => ?_) fun cdv A outer s H vs Q E hr h => ?_
  · obtain ⟨ι, p, dx, us, ds, S, rfl, _, _, _, _, hL, q⟩ := h
    unfold initF at q
    by_cases hz : ds.length + 1 = ps.length
    · rw [List.length_cons, hL.length]; exact hz
    · rw [if_neg hz] at q
      exact q.elim
  · refine ⟨_, hb cdv A outer s H E hr ⟨rfl, S.nd, cx_hp, takes_of rfl rfl rfl rfl⟩, ?_⟩
    obtain ⟨ι, p, dx, us, ds, S, rfl, n1, n2, hp, hS, hL, q⟩ := h
    unfold initF at q
    by_cases hz : ds.length + 1 = ps.length
    case neg => rw [if_neg hz] at q; exact q.elim
    rw [if_pos hz] at q
    refine ⟨ι, entry N.length (.adr p :: ds), S, p, dx, _, [], [], n1, n2, hS, entry_rep (.cons (.adr p) hL), rfl, hp, rfl, .nil, hC.cls, fun f hf => hC.no f (hns f hf), ?_⟩
    revert q
    cases c (entry N.length (.adr p :: ds)) S with
    | ok es S' => exact fun q ι' H' vs σ' x s h l r => q ι' H' vs σ' x s h l r
    | exn e S' => exact fun q => q
    | bad => exact fun q => q
open Classical in
/-- an object is made: its place does not matter -/
noncomputable def mkD (C : Str) (ns : List Str) (F : Addr → List D → Sto → Res (List D)) : DFn := fun ds S => if ∀ p, F p ds S = F 0 ds S then (F 0 ds S).bind (fun es S' => .ok (.obj C ns es) S') else .bad
theorem mkD_ok {C : Str} {ns : List Str} {F : Addr → List D → Sto → Res (List D)} {ds es : List D} {S S' : Sto} (h : ∀ p, F p ds S = .ok es S') : mkD C ns F ds S = .ok (.obj C ns es) S' := by
  unfold mkD
  rw [if_pos fun p => (h p).trans (h 0).symm, h 0]
  rfl
/-- a class of the text that is made so -/
structure HasI (P : Program) (w : World) (K : PySem.W.Frag) (mg : Str → Option Value) (base : Heap) (k : Nat) (C : Str) (ns : List Str) (args : Arguments) (ps : List Str) (F : Addr → List D → Sto → Res (List D)) : Prop where
  ex : ∃ f fd body scope, mg C = some (.ref (He.ga K C)) ∧ Mk K (He.ga K C) f ∧ FunD K "__init__" (C ++ ".__init__") args body scope [] [] f fd ∧ FnOk P w K mg base (L2.CX P w) k f fd ps (spI K mg C ns F)
section
variable {X : Cx} {W : WX} {C f : Addr} {k j : Nat} {fd : FuncData} {ps ns : List Str} {sp : Sp} {x : Str} {p pos : Pos} {e : Expr} {es : List Expr} {cs : DAn} {F : Addr → List D → Sto → Res (List D)}
theorem run_makeS {CX : CXT} {E : L2.St → XK} {pins : List (Addr × Obj)} {σ : L2.St} {H : Hp} {s : Shared} {Q : VK} {us : List Value} {vs : List V} (M : Mk X.K C f) (F : FnOk X.prog X.w X.K X.mg X.base CX k f fd ps sp) (hr : Room (k + 1) X.A) (hb : L2.Binds X.K fd ps [])
    (hx : PassesAt CX X σ (E σ)) (I : L2.Inv X pins σ H s) (r : Vals vs us)
    (h : ∀ x dx, H x = none → H dx = none → dx ≠ x → sp (.ref x :: vs) (upd (upd H dx (.own x)) x (.ins C dx [])) (fun v H2 => v = .non ∧ Q (.ref x) H2) (E σ)) :
    wpAny (model X.prog X.w) X.A (call (.ref C) us) (EP X pins σ Q) X.xe s := by
  have hq := h (s.heap.objs.size + 1) s.heap.objs.size (I.hok.fresh (Nat.le_succ _)) (I.hok.fresh (Nat.le_refl _)) (Nat.ne_of_lt (Nat.lt_succ_self _))
  have I2 := Inv.made (C := C) I
  have r2 : Vals (V.ref (s.heap.objs.size + 1) :: vs) (Value.ref (s.heap.objs.size + 1) :: us) := .cons rfl r
  have hl : (Value.ref (s.heap.objs.size + 1) :: us ++ []).length = ps.length := by
    have e := r2.length
    rw [F.len _ _ _ _ hq] at e
    rw [List.append_nil]
    exact e.symm
  have hbb := hb _ (Value.ref (s.heap.objs.size + 1) :: us) I2.kIn hl
  rw [List.append_nil] at hbb
  refine wpAny_call (make_map (f := f) I.kIn M.makes M.init (beq_iff_eq.mp M.fn) (codeAny_mono (F.run _ X.stack _ _ ⟨Value.ref (s.heap.objs.size + 1) :: us, []⟩ (Value.ref (s.heap.objs.size + 1) :: us) _ _ (E σ) (hr.make C us [])
    (I2.env0.make C us []) hbb r2 hq) fun r s' hq' => ?_))
  cases r with
  | error e => exact hx pins _ _ e s' I2 hq'
  | ok fl =>
    cases fl with
    | ret u =>
      obtain ⟨v, H', I3, rv, ev, q3⟩ := I2.after hq'
      subst ev
      exact ⟨rv, ⟨V.ref (s.heap.objs.size + 1), H', I3, rfl, q3⟩⟩
    | next => exact False.elim hq'
    | brk => exact False.elim hq'
    | cont => exact False.elim hq'
/-- what is made, on data -/
theorem make_imp {K : PySem.W.Frag} {mg : Str → Option Value} {We : WE} {ι : Nm} {H : Hp} {S : Sto} {C : Str} {ds : List D} {vs : List V} {Q : VK} (hm : mg C = some (.ref (He.ga K C))) (hS : SimS K mg ι H S) (r : RepL K mg ι H vs ds)
    (q : Aft K mg (RepV K mg) We ι H (mkD C ns F ds S) Q) : ∀ x dx, H x = none → H dx = none → dx ≠ x → spI K mg C ns F (.ref x :: vs) (upd (upd H dx (.own x)) x (.ins (He.ga K C) dx [])) (fun v H2 => v = .non ∧ Q (.ref x) H2) We := by
  intro x dx hx hdx hne
  unfold mkD at q
  by_cases hp : ∀ p, F p ds S = F 0 ds S
  case neg => rw [if_neg hp] at q; exact q.elim
  rw [if_pos hp] at q
  have e1 : upd H dx (.own x) x = none := by rw [upd_ne (Ne.symm hne)]; exact hx
  have s1 : SimS K mg (ι.hide x) (upd (upd H dx (.own x)) x (.ins (He.ga K C) dx [])) S := (hS.new hdx).newHid e1
  have fr := hS.fresh hx
  refine ⟨ι, x, dx, vs, ds, S, rfl, fr.1, fr.2, upd_same, s1, RepL.mo (Mo.hideNew e1) _ _ (r.ext (Ext.new hdx)), ?_⟩
  rw [hp x]
  have ex : ∀ {ι' H'}, ExtP x ι (upd (upd H dx (.own x)) x (.ins (He.ga K C) dx [])) ι' H' → Ext ι H ι' H' := fun {ι' H'} y => ⟨y.pre, y.hid, fun a o h t n => y.keep a o (by rw [upd_ne (ne_of_none h hx), upd_ne (ne_of_none h hdx)]; exact h) t (ne_of_none h hx) n, fun a h => y.trk a (upd_trk (upd_trk h))⟩
  revert q
  cases F 0 ds S with
  | ok es S' =>
    intro q ι' H' us σ' y s' h' l' r'
    refine ⟨rfl, q ι' H' (.ref x) (ex y) s'.shown ?_⟩
    have hm2 := s'.hid x List.mem_cons_self
    exact .obj hm h' ⟨hm2.2, by rw [y.hid]; exact fr.2⟩ l' (RepL.mo Mo.shown _ _ r')
  | exn e S' =>
    intro q ι' H' σ' cls dd y s' rx
    refine q ι' H' cls dd (ex y) s'.shown ?_
    obtain ⟨Ca, e1, e2, e3⟩ := rx
    refine ⟨Ca, e1, e2, e3.imp id ?_⟩
    rintro ⟨d, vs, a1, a2, a3, a4, a5⟩
    exact ⟨d, vs, a1, a2, ⟨a3.1, fun z => a3.2 (List.mem_cons_of_mem _ z)⟩, a4, RepL.mo Mo.shown _ _ a5⟩
  | bad => exact fun q => q
end
section
variable {X : Cx} {W : WX} {C : Str} {k j : Nat} {ps ns : List Str} {p pos : Pos} {e : Expr} {es : List Expr} {cs : DAn} {F : Addr → List D → Sto → Res (List D)} {args : Arguments}
def BindI (args : Arguments) (C : Str) (ps : List Str) : Prop := ∀ (body : List Stmt) (scope : Scope) (kV doc pm : Value) (an : Option Addr) (cdv ct : Value) (us : List Value), us.length = ps.length → bindArgs (PySem.W.fnOf "__init__" (C ++ ".__init__") args body scope .none kV doc pm an cdv ct) ⟨us, []⟩ = pure (ps.zip us)
theorem bindI_of {K : PySem.W.Frag} {f : Addr} {fd : FuncData} {body : List Stmt} {scope : Scope} (FD : FunD K "__init__" (C ++ ".__init__") args body scope [] [] f fd) (h : BindI args C ps) : L2.Binds K fd ps [] := by
  obtain ⟨oc, od, dV, kV, doc, pm, an, cdv, ct, osl, rfl, lk, hcd, hD, hK⟩ := FD.ex
  rcases hD with ⟨_, rfl⟩ | ⟨e, _⟩
  · intro s us _ hl
    rw [List.append_nil] at hl ⊢
    exact .of_eq (h body scope kV doc pm an cdv ct us hl)
  · exact absurd rfl e
theorem se_make (gX : Go X W) (hF : HasI X.prog X.w X.K X.mg X.base k C ns args ps F) (hr : Room j X.A) (hj : k + 1 ≤ j) (hb : BindI args C ps) (ha : SA X W (e :: es) cs)
    (hg : Gl X C := by rfl) (hd : (C == ("__debug__" : Str)) = false := by decide) (hs : starEach (e :: es) X.env = (false, eval e X.env) :: starEach es X.env := by rfl) (hpl : (backTo pos (starEach es X.env)).any (·.1) = false := by rfl) :
    SE X W (.Call (.Name C p) (e :: es) [] pos) (cApp (mkD C ns F) cs) := by
  obtain ⟨f, fd, body, scope, hm, M, FD, Fo⟩ := hF.ex
  refine ⟨fun pins s σ H Q I h => ?_⟩
  obtain ⟨ι, env, S, hS, hE, q⟩ := h
  refine wpAny_Call_Name_kw (ld_glob I hg hm ?_ hd)
  refine PySem.W.callWith_K (h₀ := X.base) I.ok.mod.kin M.kp (thn (ha.run pos pins s σ H _ I (tDA.seq hS hE q fun ι1 H1 vs ds S1 _ x1 s1 e1 r1 q1 => make_imp hm s1 r1 q1)) fun us s1 ⟨vs, H1, I1, r, q⟩ => ⟨I1.kIn, ?_⟩) hs hpl
  exact run_makeS (E := L2.WE W) M Fo (hr.mono hj) (bindI_of FD hb) (passAt gX.tk σ) I1 r q
end
end DL
end

section
set_option Elab.async false
set_option linter.all false
set_option maxRecDepth 100000
set_option maxHeartbeats 4000000
set_option autoImplicit false
/-! further operators -/
namespace DL
open PySem PySem.Spec PyProof.Rows L2
theorem intsOf_eq : ∀ {ds : List D} {is : List Int}, intsOf ds = some is → ds = is.map D.int
  | [], is, h => by cases h; rfl
  | d :: ds, is, h => by
    cases d with
    | int i =>
      have h : (intsOf ds).map (fun is => i :: is) = some is := h
      obtain ⟨js, e, rfl⟩ := Option.map_eq_some_iff.mp h
      rw [intsOf_eq e]
      rfl
    | _ => cases h
/-- rows of whole numbers: t < u -/
def oLtT (x y : D) (S : Sto) : Res D := match x, y with
  | .tup ds, .tup es => (match intsOf ds, intsOf es with
    | some is, some js => .ok (.bl (HT.lexLt is js)) S
    | _, _ => .bad)
  | _, _ => .bad
theorem p_ltT {X : Cx} : P2 X.K X.mg (rLtT X.K) oLtT := by
  intro ι H S x y v u We Q hS rx ry q
  unfold oLtT at q
  split at q
  · rename_i ds es
    cases e1 : intsOf ds with
    | none => rw [e1] at q; exact q.elim
    | some is =>
      cases e2 : intsOf es with
      | none => rw [e1, e2] at q; exact q.elim
      | some js =>
        rw [e1, e2] at q
        have h1 := intsOf_eq e1
        have h2 := intsOf_eq e2
        subst h1 h2
        obtain ⟨a, vs, rfl, sa, la⟩ := rx.sqT
        obtain ⟨b, us, rfl, sb, lb⟩ := ry.sqT
        have e3 := la.ints
        have e4 := lb.ints
        subst e3 e4
        exact ⟨a, b, is, js, rfl, rfl, sa, sb, Aft.done q hS (.bl _)⟩
  · exact q.elim
end DL
end

section
set_option Elab.async false
set_option linter.all false
set_option maxRecDepth 100000
set_option maxHeartbeats 4000000
set_option autoImplicit false
/-! (*xs, ..), max(xs, default=None), range(a, b, c) -/
namespace DL
open PySem PySem.Spec PyProof.Rows L2
def cStar (c : DEn) (r : DAn) : DAn := fun env S => (c env S).bind fun x S1 => match seqOf S1 x with
  | some ds => (r env S1).bind fun es S2 => .ok (ds ++ es) S2
  | none => .bad
section
variable {X : Cx} {W : WX} {e : Expr} {es : List Expr} {p : Pos} {ce : DEn} {cs : DAn}
theorem sa_star (he : SE X W e ce) (hr : SA X W es cs) (hs : starEach (.Starred e p :: es) X.env = (true, eval e X.env) :: starEach es X.env := by rfl) : SA X W (.Starred e p :: es) (cStar ce cs) := PA.weak (StX.pa_star he hr hs) fun σ H Q h => by
  obtain ⟨ι, env, S, hS, hE, q⟩ := h
  refine tD.seq hS hE q fun ι1 H1 x d S1 _ x1 s1 e1 r1 q1 => ?_
  cases eq : seqOf S1 d with
  | none => rw [eq] at q1; exact q1.elim
  | some ds =>
    rw [eq] at q1
    obtain ⟨a, vs, rfl, hq, l⟩ := s1.seq r1 eq
    refine ⟨a, vs, rfl, hq.symm, ?_⟩
    refine tDA.seq s1 e1 q1 fun ι2 H2 us es2 S2 _ x2 s2 e2 r2 q2 => ?_
    exact Aft.done q2 s2 ((l.ext x2).append r2)
end
/-- the greatest, or d -/
def rMaxN (K : PySem.W.Frag) (mg : Str → Option Value) : List V → List V → Hp → VK → Prop := fun vs zs H Q => zs = [V.non] ∧
  ∃ (a : Addr) (ws : List V) (ds : List D) (ι : Nm), vs = [V.ref a] ∧ SqA K H a ws ∧ RepL K mg ι H ws ds ∧ alikeB ds = true ∧ (∀ e ∈ ds, nonN (encD e) = true) ∧ ∀ v, RepV K mg ι H v (match ds with
    | [] => .non
    | d :: r => maxDs d r) → Q v H
theorem cr_maxN {X : Cx} (mg : Str → Option Value) (hc : X.calm = true) (hu : Roomy X) : CallRK X (.builtin "max") ["default"] (rMaxN X.K mg) := by
  intro pins s σ H vs zs us ws' Q I r rz h
  obtain ⟨rfl, a, ws, ds, ι, rfl, hs, l, hz, hn, q⟩ := h
  rw [Vals.ref1 r]
  obtain ⟨u1, rfl, ru⟩ := vals1 rz
  cases (show u1 = Value.none from ru)
  refine PySem.call_max_walkD (iter_seq (A := X.A.in1) I (I.ok.hd hc) hs fun s₂ o its St rv e W st fp wr kp => ?_)
  have hl := rv.length
  have hl2 := l.length
  refine ⟨_, _, _, _, _, (fun i v => its[i]? = some v), _, s.heap, (fun i j => PySem.W.dataLt (encD (ds.getD j .non)) (encD (ds.getD i .non))), rfl, W, st, fp, wr, kp, fun h0 s' m => ?_, fun h0 => ⟨?_, fun v s' hP m => ?_⟩⟩
  · have hd : ds = [] := by
      cases ds with
      | nil => rfl
      | cons d ds => simp at hl2; omega
    subst hd
    exact ⟨.non, H, moved_inv I e m, rfl, q _ .non⟩
  · exact cmp_gt I hz hn l rv (A := X.A.in1) (by show X.A.units + 1 + 50 < cLine; unfold Roomy at hu; omega)
  · cases ds with
    | nil =>
      have h2 : ws.length = 0 := hl2
      omega
    | cons d ds =>
      have e1 : its.length - 1 = ds.length := by rw [← hl, hl2]; rfl
      obtain ⟨e2, e3⟩ := PySem.W.argBest_fold (fun x y => PySem.W.dataLt (encD y) (encD x)) D.non d ds ds.length (Nat.le_refl _)
      rw [List.take_length] at e3
      have hP : its[argBest (fun i j => PySem.W.dataLt (encD ((d :: ds).getD j .non)) (encD ((d :: ds).getD i .non))) (its.length - 1)]? = some v := hP
      rw [e1] at hP
      obtain ⟨d1, x1, as1, g1, m1, g2, g3, g4, r1, z1⟩ := reads_at I hz l rv _ v hP
      have g5 : d1 = maxDs d ds := by
        have z : (d :: ds).getD (argBest (fun i j => PySem.W.dataLt (encD ((d :: ds).getD j .non)) (encD ((d :: ds).getD i .non))) ds.length) .non = d1 := by
          rw [List.getD_eq_getElem?_getD, g1]; rfl
        rw [← z]
        exact e3
      exact ⟨x1, H, moved_inv I e m, g3, q x1 (show RepV X.K mg ι H x1 (maxDs d ds) by rw [← g5]; exact g4)⟩
def fMaxN (xs : List D) (S : Sto) : Res D := match xs with
  | [x] => (match seqOf S x with
    | some ds => if (alikeB ds && ds.all fun e => nonN (encD e)) = true then .ok (match ds with
      | [] => .non
      | d :: r => maxDs d r) S else .bad
    | none => .bad)
  | _ => .bad
section
variable {X : Cx} {W : WX} {e : Expr} {p pos : Pos} {cs : DAn}
theorem se_maxN {kpos pc : Pos} {kk : Nat} (hc : X.calm = true) (hu : Roomy X) (hm : X.mg "max" = none) (ha : SA X W [e] cs) (hg : Gl X "max" := by rfl)
    (he : backTo pos (starEach [e] X.env) = (false, eval e X.env) :: backTo pos (starEach [] X.env) := by rfl) (hpl : (backTo pos (starEach [e] X.env)).any (·.1) = false := by rfl)
    (hall : (backToKw pos (keywordEach [⟨some "default", .Constant .none kk pc, kpos⟩] X.env)).all (·.1.isSome) = true := by rfl) (hnone : (backToKw pos (keywordEach [⟨some "default", .Constant .none kk pc, kpos⟩] X.env)).any (·.1.isNone) = false := by rfl) (hks : (backToKw pos (keywordEach [⟨some "default", .Constant .none kk pc, kpos⟩] X.env)).filterMap (·.1) = [Str.ofString "default"] := by rfl) :
    SE X W (.Call (.Name "max" p) [e] [⟨some "default", .Constant .none kk pc, kpos⟩] pos) (cApp fMaxN cs) :=
  PE.weak (pe_callBK (cr_maxN X.mg hc hu) hg hm (by decide +kernel) ha (pk_cons pe_non pk_nil) (by decide) (by decide) he hpl hall hnone hks) fun σ H Q h => by
    obtain ⟨ι, env, S, hS, hE, q⟩ := h
    refine tDA.seq hS hE q fun ι1 H1 vs ds S1 _ x1 s1 e1 r1 q1 => ?_
    unfold fMaxN at q1
    split at q1
    · rename_i x
      obtain ⟨v, rfl, r⟩ := r1.one
      split at q1
      · rename_i es eq
        split at q1
        · rename_i hz
          rw [Bool.and_eq_true, List.all_eq_true] at hz
          obtain ⟨a, ws, rfl, hq, l⟩ := s1.seq r eq
          exact ⟨rfl, a, ws, es, ι1, rfl, hq, l, hz.1, hz.2, fun v hv => Aft.done q1 s1 hv⟩
        · exact q1.elim
      · exact q1.elim
    · exact q1.elim
end
section
variable {X : Cx} {W : WX} {a b c : Expr} {cs : DAn}
theorem ss_par3 (gX : Go X W) (i j k : Nat) {x y z : Str} {px py pz pt pt2 pos : Pos} {kt k2 : Nat} (ha : SA X W [a, b, c] cs) (hi : X.N[i]? = some x := by rfl) (hj : X.N[j]? = some y := by rfl) (hk : X.N[k]? = some z := by rfl) (hij : i ≠ j := by decide) (hik : i ≠ k := by decide) (hjk : j ≠ k := by decide)
    (hx : X.env.scope.names.lookup x = some .local := by rfl) (hy : X.env.scope.names.lookup y = some .local := by rfl) (hz : X.env.scope.names.lookup z = some .local := by rfl)
    (hw : swappedStores [.Tuple [.Name x px, .Name y py, .Name z pz] kt pt] (.Tuple [a, b, c] k2 pt2) X.env = pure (some [x, y, z]) := by rfl) :
    SS X W (.Assign [.Tuple [.Name x px, .Name y py, .Name z pz] kt pt] (.Tuple [a, b, c] k2 pt2) pos) (sPar3 i j k cs) := by
  refine PS.weak (ps_par3 (ta := tDA X.K X.mg W cs) gX.calm gX.nd hi hj hk hij hik hjk hx hy hz ha hw) fun D σ H h => ?_
  obtain ⟨ι, env, S, hS, hE, q⟩ := h
  refine tDA.th hS hE q fun ι1 H1 v d S1 _ x s e r q => ?_
  match d, r, q with
  | [d1, d2, d3], .cons r1 (.cons r2 (.cons r3 .nil)), q => exact ⟨_, _, _, rfl, q.nx_ s (((e.set r1).set r2).set r3)⟩
  | [], _, q => exact q.elim
  | [_], _, q => exact q.elim
  | [_, _], _, q => exact q.elim
  | _ :: _ :: _ :: _ :: _, _, q => exact q.elim
end
@[simp] theorem sPar3_ap {i j k : Nat} {cs : DAn} {env : Env} {S : Sto} : sPar3 i j k cs env S = (cs env S).th env fun ds S1 => match ds with
  | [x, y, z] => .nx (((env.set i (some x)).set j (some y)).set k (some z)) S1
  | _ => .bad := (rfl)
end DL
end

section
set_option Elab.async false
set_option linter.all false
set_option maxRecDepth 100000
set_option maxHeartbeats 4000000
set_option autoImplicit false
/-! a tuple once -/
namespace DL
open PySem PySem.Spec PyProof.Rows L2
theorem tuple_mul1W (l : Addr) (items : Array Value) (n : Nat) (dd : Option Addr) (sl : Array (Option Value)) (u : Tok) :
    Meets (Builtin.«tuple.__mul__» { pos := [Value.ref l, Value.int 1 u] }) fun x_1 R s =>
      s.heap.get? l = some { cls := Value.type "tuple", dict := dd, data := Data.seq items n, slots := sl } ∧ R (Except.ok (Flow.ret (Value.ref l))) s :=
  Meets.of_wp fun prog w A R s h => by
    obtain ⟨hp, g, d, tk, os⟩ := s
    obtain ⟨hl, h⟩ := h
    have f1 := @AutoSeq1.idx_int
    unfold Builtin.«tuple.__mul__»
    refine @wpAny_bind _ _ _ _ _ _ (asIndex (Value.int 1 u)) _ _ ?_
    refine wpAny_bind ?_
    refine wpAny_pure ?_
    refine wpAny_pure ?_
    dsimp only
    refine wpAny_ite_false (by decide) ?_
    refine wpAny_bind ?_
    refine wpAny_bind ?_
    refine wpAny_bind ?_
    refine wpAny_load' hl ?_
    refine wpAny_pure ?_
    refine wpAny_pure ?_
    refine wpAny_ite_true (by simp) ?_
    refine wpAny_bind ?_
    refine wpAny_bind ?_
    unfold typeOf
    refine wpAny_bind ?_
    refine wpAny_load' hl ?_
    refine wpAny_pure ?_
    refine wpAny_pure ?_
    refine wpAny_ite_true (by simp) ?_
    refine wpAny_bind ?_
    refine wpAny_rule ?_
    exact wpAny_pure ⟨_, rfl, h⟩
/-- a tuple once -/
def rRep1 (K : PySem.W.Frag) : R2 := fun x y H Q => ∃ l xs, x = .ref l ∧ y = .int 1 ∧ SqT K H l xs ∧ Q (.ref l) H
theorem op_rep1 {X : Cx} : OpR X (binaryOp .Mult) (rRep1 X.K) := by
  intro pins s σ H x y v u Q I rx ry h
  obtain ⟨l, xs, rfl, rfl, hT, q⟩ := h
  cases rx
  obtain ⟨t, rfl⟩ := ry
  obtain ⟨its, hv, ⟨o, ho, hc, n, hd⟩, hz⟩ := I.tuple hT
  obtain ⟨cls, dd, data, sl⟩ := o
  cases hc
  cases hd
  have ht : s.TypeIs (.ref l) "tuple" := ⟨_, ho, rfl⟩
  refine wpAny_binaryOp_repeat_ref (by decide) ht (fun s1 => typeIs_int s1 1 t) noFill_tuple_mul F.fills_int_mul F.slot_int_rmul repeat_tuple F.slot_int_index.lookup ?_
  refine call_meets F.slot_int_rmul (typeIs_int s 1 t) F.entry_int_rmul (F.args_int_rmul_2 _ _) (int_rmul_tuple _ _ _ _ _ _ _) ⟨ho, ?_⟩
  refine ⟨rfl, ht, ?_⟩
  refine call_meets F.slot_tuple_mul ht F.entry_tuple_mul (F.args_tuple_mul_2 _ _) (tuple_mul1W _ _ _ _ _ _) ⟨ho, ?_⟩
  exact ⟨.ref l, H, I, rfl, q⟩
def rMulH (X : Cx) : R2 := fun x y H Q => rMulG X x y H Q ∨ rRep1 X.K x y H Q
section
variable {X : Cx}
theorem op_mulH : OpR X (binaryOp .Mult) (rMulH X) := OpR.or op_mulG op_rep1
/-- a written tuple, so many times -/
def oMulH (x y : D) (S : Sto) : Res D := match x, y with
  | .tup xs, .int k => if k = 1 then .ok (.tup xs) S else oMulG (.tup xs) (.int k) S
  | _, _ => .bad
theorem p_mulH : P2 X.K X.mg (rMulH X) oMulH := by
  intro ι H S x y v u We Q hS rx ry q
  unfold oMulH at q
  cases x with
  | tup xs =>
    cases y with
    | int k =>
      simp only at q
      split at q
      · rename_i hk
        subst hk
        cases ry
        obtain ⟨p, vs, rfl, hq, l⟩ := rx.sqT
        exact .inr ⟨p, vs, rfl, rfl, hq, Aft.done q hS rx⟩
      · exact .inl (p_mulG ι H S (.tup xs) (.int k) v u We Q hS rx ry q)
    | _ => exact q.elim
  | _ => exact q.elim
end
end DL
end

section
set_option Elab.async false
set_option linter.all false
set_option maxRecDepth 100000
set_option maxHeartbeats 4000000
set_option autoImplicit false
/-! how many keys a dict comprehension has (keys: ints); list(range(..)), tuple(range(..)) -/
namespace DL
open PySem PySem.Spec PyProof.Rows L2
def dcN (src : Src) (g : DGn) (t : DTn) (k v : DEn) (env0 : Env) : Nat → Nat → List Int → Sto → Res (List Int)
  | 0, i, ks, S => match src.cur S i with
    | .stop => .ok ks S
    | _ => .bad
  | m + 1, i, ks, S => match src.cur S i with
    | .stop => .ok ks S
    | .bad => .bad
    | .it d => match g d env0 S with
      | .nx env2 S2 => (t env2 S2).nox.bind fun b S3 => if b = true then (k env2 S3).nox.bind fun y S4 => (match y with
          | .int z => (v env2 S4).nox.bind fun _ S5 => if ks.length < LIM then dcN src g t k v env0 m (i + 1) (if z ∈ ks then ks else ks ++ [z]) S5 else .bad
          | _ => .bad) else dcN src g t k v env0 m (i + 1) ks S3
      | _ => .bad
def cLenDc (it : Env → Sto → Res Src) (g : DGn) (t : DTn) (k v : DEn) (vs : List Nat) : DEn := fun env S => (it env S).bind fun src S1 => (dcN src g t k v (wipeD env vs) src.n 0 [] S1).bind fun ks S2 => .ok (.int ((ks.length : Nat) : Int)) S2
theorem putK_keys (kvs : List (L2.Key × V)) (ks : List Int) (h : kvs.map Prod.fst = ks.map Sum.inl) (z : Int) (v : V) : (putK kvs (Sum.inl z) v).map Prod.fst = (if z ∈ ks then ks else ks ++ [z]).map Sum.inl := by
  unfold putK
  have e : (kvs.any fun kv => decide (kv.1 = Sum.inl z)) = decide (z ∈ ks) := by
    have : (kvs.any fun kv => decide (kv.1 = (Sum.inl z : L2.Key))) = ((kvs.map Prod.fst).any fun k => decide (k = (Sum.inl z : L2.Key))) := by rw [List.any_map]; rfl
    rw [this, h, List.any_map, Bool.eq_iff_iff]
    simp
  rw [e]
  by_cases hz : z ∈ ks
  · rw [decide_eq_true hz, if_pos rfl, if_pos hz, ← h, List.map_map]
    refine List.map_congr_left fun kv _ => ?_
    simp only [Function.comp_apply]
    split <;> rfl
  · rw [decide_eq_false hz, if_neg Bool.false_ne_true, if_neg hz, List.map_append, h, List.map_append]
    rfl
section
variable {K : PySem.W.Frag} {mg : Str → Option Value} {W : WX} {ι ι' ι1 ι2 ι5 : Nm} {H H' H1 H2 H5 : Hp} {S : Sto} {σ : L2.St} {env : Env} {D : Addr}
theorem dc_imp {ci : Env → Sto → Res Src} {g : DGn} {t : DTn} {k v : DEn} {vs : List Nat} {Q : VK} (cg : Calm g) (h : tD K mg W (cLenDc ci g t k v vs) σ H Q) :
    tDc (tDI K mg W ci) (tDGv K mg vs g) (tDT K mg W0 t) (tD K mg W0 k) (tD K mg W0 v) vs σ H (fun x H1 => ∃ a kvs, [x] = [V.ref a] ∧ H1 a = some (.dK kvs) ∧ Q (.int ((kvs.length : Nat) : Int)) H1) := by
  obtain ⟨ι, env, S, hS, hE, q⟩ := h
  refine ⟨ι, env, S, hS, hE, Aft.seq q fun ι1 H1 J src S1 _ x1 s1 r1 q1 => ?_⟩
  intro D hD
  have hDh : D ∉ ι1.hid := (s1.fresh hD).2
  refine ⟨fun i m H' => ∃ (ι2 : Nm) (S2 : Sto) (kvs : List (L2.Key × V)) (ks : List Int), Ext ι1 H1 ι2 H' ∧ SimS K mg (ι2.hide D) H' S2 ∧ D ∉ ι2.hid ∧ H' D = some (.dK kvs) ∧ kvs.map Prod.fst = ks.map Sum.inl ∧
    Aft K mg (RepV K mg) (fun cls dd H' => W cls dd σ H') ι1 H1 ((dcN src g t k v (wipeD env vs) m i ks S2).bind fun ks S2 => .ok (.int ((ks.length : Nat) : Int)) S2) Q, ⟨src.n, ι1, S1, [], [], Ext.new hD, s1.newHid hD, hDh, upd_same, rfl, q1⟩, ?_⟩
  rintro i m H' ⟨ι2, S2, kvs, ks, x2, s2, hd2, hD2, l2, q2⟩
  have ok := r1 (ι2.hide D) H' S2 (Mo.into x2 hD) s2 i
  have hlen : kvs.length = ks.length := by
    have := congrArg List.length l2
    simpa using this
  have halt : src.cur S2 i = .stop → Aft K mg (RepV K mg) (fun cls dd H' => W cls dd σ H') ι1 H1 (.ok (.int ((ks.length : Nat) : Int)) S2) Q → J.stop i H' ∧ ∃ a kvs, [V.ref D] = [V.ref a] ∧ H' a = some (.dK kvs) ∧ Q (.int ((kvs.length : Nat) : Int)) H' := fun z q =>
    ⟨ok.2 z, D, kvs, rfl, hD2, by rw [hlen]; exact q ι2 H' _ x2 s2.shown (.int _)⟩
  cases m with
  | zero =>
    unfold dcN at q2
    cases z : src.cur S2 i with
    | stop =>
      rw [z] at q2
      exact .inl (halt z q2)
    | _ => rw [z] at q2; exact q2.elim
  | succ m =>
    unfold dcN at q2
    cases z : src.cur S2 i with
    | stop =>
      rw [z] at q2
      exact .inl (halt z q2)
    | bad => rw [z] at q2; exact q2.elim
    | it d =>
      rw [z] at q2
      obtain ⟨hgo, hy⟩ := ok.1 d z
      refine .inr ⟨hgo, fun H' => ∃ (ι2 : Nm) (S2 : Sto) (kvs : List (L2.Key × V)) (ks : List Int), Ext ι1 H1 ι2 H' ∧ SimS K mg (ι2.hide D) H' S2 ∧ D ∉ ι2.hid ∧ H' D = some (.dK kvs) ∧ kvs.map Prod.fst = ks.map Sum.inl ∧
        Aft K mg (RepV K mg) (fun cls dd H' => W cls dd σ H') ι1 H1 ((dcN src g t k v (wipeD env vs) m (i + 1) ks S2).bind fun ks S2 => .ok (.int ((ks.length : Nat) : Int)) S2) Q, fun H' n => ⟨m, Nat.lt_succ_self m, n⟩, fun x H3 y => ?_⟩
      obtain ⟨ι3, x3, s3, r3⟩ := hy x H3 y
      have e3 : RepE K mg ι3 H3 (wipe σ vs) (wipeD env vs) := (hE.wipe vs).mo ((x1.mo.trans (Mo.into x2 hD)).trans x3.mo)
      refine ⟨ι3, wipeD env vs, S2, d, s3, e3, r3, ?_⟩
      rcases cg d (wipeD env vs) S2 with zg | ⟨env2, zg⟩
      · simp only [zg] at q2
        exact q2.elim
      · rw [zg]
        simp only [zg] at q2
        intro σ' _ e4 w4
        refine ⟨w4.trans wipe_wipe, ι3, env2, S2, s3, e4, ?_⟩
        cases zt : t env2 S2 with
        | bad => simp only [zt] at q2; exact q2.elim
        | exn _ _ => simp only [zt] at q2; exact q2.elim
        | ok b' S3 =>
          simp only [zt, nox_ok, bind_ok] at q2
          intro ι4 H4 b x4 s4 r4
          have r4 : b = b' := r4
          subst r4
          have x34 := x3.trans x4
          cases b with
          | false =>
            rw [if_neg Bool.false_ne_true] at q2 ⊢
            have e4 : ι4 = Nm.hide ⟨ι4.ns, ι2.hid⟩ D := by
              have := x34.hid
              cases ι4
              cases this
              rfl
            refine ⟨⟨ι4.ns, ι2.hid⟩, S3, kvs, ks, Ext.under x2 hD x34, by rw [← e4]; exact s4, hd2, ?_, l2, q2⟩
            exact (x34.keep _ _ hD2 (fun ps z => by cases z) (s2.hid D List.mem_cons_self).2).1
          | true =>
            rw [if_pos rfl] at q2 ⊢
            refine ⟨ι4, env2, S3, s4, e4.ext x4, ?_⟩
            cases zk : k env2 S3 with
            | bad => simp only [zk] at q2; exact q2.elim
            | exn _ _ => simp only [zk] at q2; exact q2.elim
            | ok yd S4 =>
              simp only [zk, nox_ok, bind_ok] at q2
              intro ι5 H5 y x5 s5 r5
              cases yd with
              | int w =>
                cases r5
                simp only at q2
                refine ⟨ι5, env2, S4, s5, (e4.ext x4).ext x5, ?_⟩
                cases zv : v env2 S4 with
                | bad => simp only [zv] at q2; exact q2.elim
                | exn _ _ => simp only [zv] at q2; exact q2.elim
                | ok vd S5 =>
                  simp only [zv, nox_ok, bind_ok] at q2
                  intro ι6 H6 vv x6 s6 r6
                  have x36 := (x34.trans x5).trans x6
                  have hD6 := (x36.keep _ _ hD2 (fun ps z => by cases z) (s2.hid D List.mem_cons_self).2).1
                  split at q2
                  · rename_i hl
                    refine ⟨kvs, Sum.inl w, rfl, hD6, by rw [lim_eq, hlen]; exact hl, ?_⟩
                    have e6 : ι6 = Nm.hide ⟨ι6.ns, ι2.hid⟩ D := by
                      have := x36.hid
                      cases ι6
                      cases this
                      rfl
                    refine ⟨⟨ι6.ns, ι2.hid⟩, S5, putK kvs (Sum.inl w) vv, _, Ext.underW x2 hD x36, ?_, hd2, upd_same, putK_keys kvs ks l2 w vv, q2⟩
                    rw [← e6]
                    rw [e6] at s6
                    have := s6.wrHid (o := .dK (putK kvs (Sum.inl w) vv))
                    rw [← e6] at this
                    exact this
                  · exact q2.elim
              | _ => exact q2.elim
end
section
variable {X : Cx} {W : WX} {kx vx tg iter : Expr} {ifs : List Expr} {scope : Scope} {own : List (Str × Nat)} {pos p lpos : Pos} {ci : Env → Sto → Res Src} {g : DGn} {t : DTn} {k v : DEn}
theorem se_lenDc (gX : Go X W) (own : List (Str × Nat)) (hm : X.mg "len" = none) (hi : SI X W tg iter ci) (ok : BlkOk X.N X.env.scope scope own) (cg : Calm g)
    (hg : ∀ (s : Shared) (H : Hp) (C : Addr) (cl : List (Str × Addr)) (fp : List Addr), Go (X.blk s H scope (compEnvC scope cl C X.env) fp) W0 → SGv (X.blk s H scope (compEnvC scope cl C X.env) fp) (own.map (·.2)) tg g)
    (ht : ∀ (s : Shared) (H : Hp) (C : Addr) (cl : List (Str × Addr)) (fp : List Addr), Go (X.blk s H scope (compEnvC scope cl C X.env) fp) W0 → STs (X.blk s H scope (compEnvC scope cl C X.env) fp) W0 ifs t)
    (hk : ∀ (s : Shared) (H : Hp) (C : Addr) (cl : List (Str × Addr)) (fp : List Addr), Go (X.blk s H scope (compEnvC scope cl C X.env) fp) W0 → SE (X.blk s H scope (compEnvC scope cl C X.env) fp) W0 kx k)
    (hv : ∀ (s : Shared) (H : Hp) (C : Addr) (cl : List (Str × Addr)) (fp : List Addr), Go (X.blk s H scope (compEnvC scope cl C X.env) fp) W0 → SE (X.blk s H scope (compEnvC scope cl C X.env) fp) W0 vx v) (hs : ∀ x, foldedSetIterable iter X.env x = pure x := by intro _; rfl)
    (hG : Gl X "len" := by rfl) (he : starEach [.DictComp kx vx [⟨tg, iter, ifs, 0⟩] scope pos] X.env = (false, eval (.DictComp kx vx [⟨tg, iter, ifs, 0⟩] scope pos) X.env) :: starEach [] X.env := by rfl) (hpl : (backTo lpos (starEach [] X.env)).any (·.1) = false := by rfl) :
    SE X W (.Call (.Name "len" p) [.DictComp kx vx [⟨tg, iter, ifs, 0⟩] scope pos] [] lpos) (cLenDc ci g t k v (own.map (·.2))) :=
  PE.weak (pe_callB L2.call_lenD hG hm (by decide +kernel) (pa_cons (pe_dc (g := tDGv X.K X.mg (own.map (·.2)) g) (tt := tDT X.K X.mg W0 t) (tk := tD X.K X.mg W0 k) (tv := tD X.K X.mg W0 v) gX.calm gX.nd hi ok (fun s H C cl fp => hg s H C cl fp (go_blk gX)) (fun s H C cl fp => ht s H C cl fp (go_blk gX)) (fun s H C cl fp => hk s H C cl fp (go_blk gX)) (fun s H C cl fp => hv s H C cl fp (go_blk gX)) hs) pa_nil he) (by decide) (by decide) he hpl) fun σ H Q h => by
    exact dc_imp cg h
end
/-- list(range(n)), tuple(range(n)) -/
def cRgL (a : DEn) : DAn := fun env S => (a env S).bind fun x S1 => match x with
  | .int j => if 0 ≤ j ∧ j ≤ 1000000 then .ok (rngL 0 j.toNat) S1 else .bad
  | _ => .bad
def cRgT (a : DEn) : DEn := fun env S => (a env S).bind fun x S1 => match x with
  | .int j => if 0 ≤ j ∧ j ≤ 1000000 then .ok (.tup (rngL 0 j.toNat)) S1 else .bad
  | _ => .bad
@[simp] theorem cRgL_ap (a : DEn) (env : Env) (S : Sto) : cRgL a env S = (a env S).bind fun x S1 => match x with
  | .int j => if 0 ≤ j ∧ j ≤ 1000000 then .ok (rngL 0 j.toNat) S1 else .bad
  | _ => .bad := (rfl)
theorem rgV_rep {K : PySem.W.Frag} {mg : Str → Option Value} {ι : Nm} {H : Hp} (j : Int) : RepL K mg ι H (rgV 0 j) (rngL 0 j.toNat) := by
  unfold rgV rngL
  rw [Int.sub_zero]
  generalize List.range j.toNat = l
  induction l with
  | nil => exact .nil
  | cons x l ih => exact .cons (.int _) ih
theorem rgOk_of {j : Int} (h : 0 ≤ j ∧ j ≤ 1000000) : RgOk 0 j := ⟨by omega, by omega, by omega, by omega, by omega⟩
section
variable {X : Cx} {W : WX} {a : Expr} {ca : DEn} {p p2 pos pos2 : Pos}
theorem sf_listRg (gX : Go X W) (hm : X.mg "list" = none) (hr : X.mg "range" = none) (ha : SE X W a ca) (hg : Gl X "list" := by rfl) (hgr : Gl X "range" := by rfl)
    (h1 : starEach [a] X.env = (false, eval a X.env) :: starEach [] X.env := by rfl) (h2 : starEach [.Call (.Name "range" p2) [a] [] pos2] X.env = (false, eval (.Call (.Name "range" p2) [a] [] pos2) X.env) :: starEach [] X.env := by rfl) :
    SF X W (.Call (.Name "list" p) [.Call (.Name "range" p2) [a] [] pos2] [] pos) (cRgL ca) :=
  PE.weak (pe_listRg gX.calm hg hm (prg_1 hgr hr ha h1) h2) fun σ H Q h => by
    obtain ⟨ι, env, S, hS, hE, q⟩ := h
    refine tD.seqF hS hE q fun ι1 H1 v d S1 _ x1 s1 e1 r1 q1 => ?_
    cases d with
    | int j =>
      cases r1
      simp only at q1
      split at q1
      · rename_i hj
        refine ⟨j, rfl, rgOk_of hj, fun q hq => ?_⟩
        exact q1 ι1 _ q _ (Ext.new hq) (s1.newHid hq) hq (s1.fresh hq).2 upd_same (rgV_rep j)
      · exact q1.elim
    | _ => exact q1.elim
theorem se_tupRg (gX : Go X W) (hm : X.mg "tuple" = none) (hr : X.mg "range" = none) (ha : SE X W a ca) (hg : Gl X "tuple" := by rfl) (hgr : Gl X "range" := by rfl)
    (h1 : starEach [a] X.env = (false, eval a X.env) :: starEach [] X.env := by rfl) (h2 : starEach [.Call (.Name "range" p2) [a] [] pos2] X.env = (false, eval (.Call (.Name "range" p2) [a] [] pos2) X.env) :: starEach [] X.env := by rfl) :
    SE X W (.Call (.Name "tuple" p) [.Call (.Name "range" p2) [a] [] pos2] [] pos) (cRgT ca) :=
  PE.weak (pe_tupRg gX.calm hg hm (prg_1 hgr hr ha h1) h2) fun σ H Q h => by
    obtain ⟨ι, env, S, hS, hE, q⟩ := h
    refine tD.seq hS hE q fun ι1 H1 v d S1 _ x1 s1 e1 r1 q1 => ?_
    cases d with
    | int j =>
      cases r1
      simp only at q1
      split at q1
      · rename_i hj
        refine ⟨j, rfl, rgOk_of hj, fun q hq => ?_⟩
        exact q1 ι1 _ _ (Ext.new hq) (s1.new hq) (.tup upd_same (s1.fresh hq) (rgV_rep j))
      · exact q1.elim
    | _ => exact q1.elim
end
end DL
end

section
set_option Elab.async false
set_option linter.all false
set_option maxRecDepth 100000
set_option maxHeartbeats 4000000
set_option autoImplicit false
/-! dicts whose keys are tuples of whole numbers -/
namespace DL
open PySem PySem.Spec PyProof.Rows L2
def dAt : List (List Int) → List D → List Int → Option D
  | k :: ks, d :: ds, j => if k = j then some d else dAt ks ds j
  | _, _, _ => none
def putKs (ks : List (List Int)) (j : List Int) : List (List Int) := if j ∈ ks then ks else ks ++ [j]
def putDs (ks : List (List Int)) (ds : List D) (j : List Int) (d : D) : List D := if j ∈ ks then List.zipWith (fun k e => if k = j then d else e) ks ds else ds ++ [d]
abbrev kkL (k : List Int) : List L2.Key := k.map (fun i => (Sum.inl i : L2.Key))
theorem kk_inj : ∀ {a b : List Int}, kkL a = kkL b → a = b
  | [], [], _ => rfl
  | [], _ :: _, e => by cases e
  | _ :: _, [], e => by cases e
  | x :: xs, y :: ys, e => by
    have e : (Sum.inl x : L2.Key) :: kkL xs = Sum.inl y :: kkL ys := e
    injection e with e1 e2
    injection e1 with e1
    rw [e1, kk_inj e2]
theorem kk_kV (k : List Int) : (kkL k).map kV = k.map V.int := by
  rw [List.map_map]
  rfl
section
variable {K : PySem.W.Frag} {mg : Str → Option Value} {ι ι' : Nm} {H H' : Hp} {S : Sto}
theorem dAt_val : ∀ {ks : List (List Int)} {vs : List V} {ds : List D} (j : List Int), ks.length = vs.length → RepL K mg ι H vs ds →
    (valV ((ks.map kkL).zip vs) (kkL j) = none ∧ dAt ks ds j = none) ∨ ∃ v d, valV ((ks.map kkL).zip vs) (kkL j) = some v ∧ dAt ks ds j = some d ∧ RepV K mg ι H v d
  | [], _, _, j, _, _ => .inl ⟨rfl, rfl⟩
  | k :: ks, [], _, j, hl, _ => by simp at hl
  | k :: ks, v :: vs, _, j, hl, l => by
    cases l with
    | @cons _ _ d ds r rs =>
      rw [List.map_cons, List.zip_cons_cons]
      by_cases e : k = j
      · subst e
        exact .inr ⟨v, d, valV_pos rfl, by rw [dAt, if_pos rfl], r⟩
      · rw [valV_neg (fun z => e (kk_inj z)), dAt, if_neg e]
        exact dAt_val j (by simpa using hl) rs
theorem mem_keys {ks : List (List Int)} {vs : List V} (j : List Int) (hl : ks.length = vs.length) : (((ks.map kkL).zip vs).any fun kv => decide (kv.1 = kkL j)) = decide (j ∈ ks) := by
  induction ks generalizing vs with
  | nil => rfl
  | cons k ks ih =>
    cases vs with
    | nil => simp at hl
    | cons v vs =>
      rw [List.map_cons, List.zip_cons_cons, List.any_cons, ih (by simpa using hl)]
      by_cases e : k = j
      · subst e
        simp
      · have e2 : ¬ kkL k = kkL j := fun z => e (kk_inj z)
        have e3 : ¬ j = k := fun z => e z.symm
        simp only [decide_eq_false e2, Bool.false_or, List.mem_cons, e3, false_or]
theorem put_val {ks : List (List Int)} {vs : List V} {ds : List D} (j : List Int) (hl : ks.length = vs.length) (l : RepL K mg ι H vs ds) {v : V} {d : D} (r : RepV K mg ι H v d) :
    ∃ ws, putK ((ks.map kkL).zip vs) (kkL j) v = ((putKs ks j).map kkL).zip ws ∧ (putKs ks j).length = ws.length ∧ RepL K mg ι H ws (putDs ks ds j d) := by
  unfold putK putKs putDs
  rw [mem_keys j hl]
  by_cases e : j ∈ ks
  · rw [if_pos (decide_eq_true e), if_pos e, if_pos e]
    clear e
    induction ks generalizing vs ds with
    | nil =>
      exact ⟨[], rfl, rfl, .nil⟩
    | cons k ks ih =>
      cases vs with
      | nil => simp at hl
      | cons u vs =>
        cases l with
        | @cons _ _ d0 ds0 r0 rs =>
          obtain ⟨ws, e1, e2, e3⟩ := ih (by simpa using hl) rs
          rw [List.map_cons, List.zip_cons_cons, List.map_cons, e1, List.zipWith_cons_cons]
          by_cases z : k = j
          · subst z
            refine ⟨v :: ws, ?_, by simp [e2], ?_⟩
            · rw [if_pos rfl, List.zip_cons_cons]
            · rw [if_pos rfl]
              exact .cons r e3
          · refine ⟨u :: ws, ?_, by simp [e2], ?_⟩
            · rw [if_neg (fun y => z (kk_inj y)), List.zip_cons_cons]
            · rw [if_neg z]
              exact .cons r0 e3
  · rw [if_neg (by simpa using e), if_neg e, if_neg e]
    refine ⟨vs ++ [v], ?_, by simp [hl], l.append (.cons r .nil)⟩
    rw [List.map_append, List.zip_append (by simpa using hl)]
    rfl
/-- the dict at a datum -/
def dctOf (S : Sto) : D → Option (List (List Int) × List D)
  | .cel n => (match S[n]? with
    | some (.dct ks ds) => some (ks, ds)
    | _ => none)
  | _ => none
def keyOf : D → Option (List Int)
  | .tup ds => intsOf ds
  | _ => none
def dGetF (S : Sto) (x y : D) : Option (Option D) := match dctOf S x, keyOf y with
  | some p, some j => some (dAt p.1 p.2 j)
  | _, _ => none
def dPutF (S : Sto) (x y d : D) : Option Sto := match x, dctOf S x, keyOf y with
  | .cel n, some p, some j => if p.1.length < LIM then some (S.set n (.dct (putKs p.1 j) (putDs p.1 p.2 j d))) else none
  | _, _, _ => none
theorem dct_at (hS : SimS K mg ι H S) {v : V} {x : D} {p : List (List Int) × List D} (r : RepV K mg ι H v x) (e : dctOf S x = some p) : ∃ n a vs, x = .cel n ∧ S[n]? = some (.dct p.1 p.2) ∧ v = .ref a ∧ ι.ns[n]? = some a ∧ p.1.length = vs.length ∧ H a = some (.dT ((p.1.map kkL).zip vs)) ∧ RepL K mg ι H vs p.2 := by
  cases x with
  | cel n =>
    have e : (match S[n]? with | some (.dct ks ds) => some (ks, ds) | _ => none) = some p := e
    cases q : S[n]? with
    | none => rw [q] at e; cases e
    | some c =>
      rw [q] at e
      cases c with
      | dct ks ds =>
        cases e
        cases r with
        | cel hn =>
          obtain ⟨vs, h1, h2, h3⟩ := hS.at_ n _ _ q hn
          exact ⟨n, _, vs, rfl, q, rfl, hn, h1, h2, h3⟩
      | _ => cases e
  | _ => cases e
theorem key_at {u : V} {y : D} {j : List Int} (r : RepV K mg ι H u y) (e : keyOf y = some j) : ∃ b, u = .ref b ∧ H b = some (.tup ((kkL j).map kV)) := by
  cases y with
  | tup ds =>
    cases r with
    | tup h n l =>
      have e2 : intsOf ds = some j := e
      have := intsOf_eq e2
      subst this
      have := l.ints
      subst this
      exact ⟨_, rfl, by rw [kk_kV]; exact h⟩
  | _ => cases e
theorem dget_at (hS : SimS K mg ι H S) {v u : V} {x y : D} {o : Option D} (rx : RepV K mg ι H v x) (ry : RepV K mg ι H u y) (e : dGetF S x y = some o) : ∃ a q, v = .ref a ∧ IsD H a ∧ DGet H a u q ∧ ((q = none ∧ o = none) ∨ ∃ w d, q = some w ∧ o = some d ∧ RepV K mg ι H w d) := by
  unfold dGetF at e
  split at e
  · rename_i p j e1 e2
    cases e
    obtain ⟨n, a, vs, rfl, hn, rfl, ha, hl, hH, l⟩ := dct_at hS rx e1
    obtain ⟨b, rfl, hb⟩ := key_at ry e2
    refine ⟨a, _, rfl, .inr ⟨_, .inl hH⟩, DGet.t hH hb, ?_⟩
    rcases dAt_val j hl l with ⟨h1, h2⟩ | ⟨w, d, h1, h2, h3⟩
    · exact .inl ⟨h1, h2⟩
    · exact .inr ⟨w, d, h1, h2, h3⟩
  · cases e
theorem Ext.dput {a : Addr} {o : HO} {n : Nat} (h : ι.ns[n]? = some a) : Ext ι H ι (upd H a o) := Ext.wr (List.mem_of_getElem? h)
theorem dput_at (hS : SimS K mg ι H S) {v u w : V} {x y d : D} {S' : Sto} (rx : RepV K mg ι H v x) (ry : RepV K mg ι H u y) (rd : RepV K mg ι H w d) (e : dPutF S x y d = some S') : ∃ a H', v = .ref a ∧ DPut H a u w H' ∧ Ext ι H ι H' ∧ SimS K mg ι H' S' := by
  unfold dPutF at e
  split at e
  · rename_i n p j e2 e1
    split at e
    · rename_i hz
      cases e
      obtain ⟨n', a, vs, hx, hn, rfl, ha, hl, hH, l⟩ := dct_at hS rx e1
      cases hx
      obtain ⟨b, rfl, hb⟩ := key_at ry e2
      obtain ⟨ws, h1, h2, h3⟩ := put_val j hl l rd
      have hlen : ((p.1.map kkL).zip vs).length < sizeLine := by
        rw [List.length_zip, List.length_map, hl, Nat.min_self, ← hl, lim_eq]
        exact hz
      have x : Ext ι H ι (upd H a (.dT (putK ((p.1.map kkL).zip vs) (kkL j) w))) := Ext.dput ha
      exact ⟨a, _, rfl, DPut.t hH hb hlen, x, hS.wr ha ⟨ws, h2, by rw [upd_same, h1], h3.ext x⟩⟩
    · cases e
  · cases e
end
/-! ### expressions, statements -/
def cDNew : DEn := fun _ S => .ok (.cel S.length) (S ++ [.dct [] []])
def cDGet (co ci : DEn) : DEn := fun env S => (co env S).bind fun x S1 => (ci env S1).bind fun y S2 => match dGetF S2 x y with
  | some (some d) => .ok d S2
  | _ => .bad
def cDGet2 (co ci cx : DEn) : DEn := fun env S => (co env S).bind fun x S1 => if (dctOf S1 x).isSome = true then (ci env S1).bind fun y S2 => (cx env S2).bind fun z S3 => (match dGetF S3 x y with
  | some o => .ok (o.getD z) S3
  | none => .bad) else .bad
def cDIn (ng : Bool) (ci co : DEn) : DEn := fun env S => (ci env S).bind fun y S1 => (co env S1).bind fun x S2 => match dGetF S2 x y with
  | some o => .ok (.bl (if ng = true then !o.isSome else o.isSome)) S2
  | none => .bad
def sDPut (co ci cv : DEn) : DSn := fun env S => (cv env S).th env fun d S1 => (co env S1).th env fun x S2 => (ci env S2).th env fun y S3 => match dPutF S3 x y d with
  | some S4 => .nx env S4
  | none => .bad
section
variable {X : Cx} {W : WX} {o i e value : Expr} {pos pos' tpos apos cpos : Pos} {co ci cv cx : DEn}
theorem Roomy.one (hu : Roomy X) : X.A.units + 1 < cLine := by
  unfold Roomy at hu
  omega
theorem se_dnew : SE X W (.Dict [] [] pos) cDNew := PE.weak pe_dnewT fun σ H Q h => by
  obtain ⟨ι, env, S, hS, hE, q⟩ := h
  intro p hp
  have q : Aft X.K X.mg (RepV X.K X.mg) (fun cls dd H' => W cls dd σ H') ι H (.ok (.cel S.length) (S ++ [.dct [] []])) Q := q
  have s1 := hS.newHid (o := .dT []) hp
  refine q (ι.add p) _ _ (Ext.name hp) (s1.named (hS.fresh hp).2 ⟨[], rfl, upd_same, .nil⟩) (.cel ?_)
  have hl : ι.ns.length = S.length := hS.len
  show (ι.ns ++ [p])[S.length]? = some p
  rw [← hl, List.getElem?_append_right (Nat.le_refl _), Nat.sub_self]
  rfl
theorem se_dget (hu : Roomy X) (ho : SE X W o co) (hi : SE X W i ci) (hs : NoSl i) : SE X W (.Subscript o i pos) (cDGet co ci) := PE.weak (pe_dget hu.one ho hi hs) fun σ H Q h => by
  obtain ⟨ι, env, S, hS, hE, q⟩ := h
  refine tD.seq hS hE q fun ι1 H1 v x S1 _ x1 s1 e1 r1 q1 => ?_
  refine tD.seq s1 e1 q1 fun ι2 H2 u y S2 _ x2 s2 e2 r2 q2 => ?_
  cases e : dGetF S2 x y with
  | none => rw [e] at q2; exact q2.elim
  | some od =>
    rw [e] at q2
    obtain ⟨a, g, rfl, _, hg, h | ⟨w, d, rfl, rfl, rd⟩⟩ := dget_at s2 (r1.ext x2) r2 e
    · obtain ⟨rfl, rfl⟩ := h
      exact q2.elim
    · exact ⟨a, w, rfl, hg, Aft.done q2 s2 rd⟩
theorem din_imp {σ : L2.St} {H : Hp} {Q : VK} (h : tD X.K X.mg W (cDIn false ci co) σ H Q) : tDIn (tD X.K X.mg W ci) (tD X.K X.mg W co) σ H Q := by
  obtain ⟨ι, env, S, hS, hE, q⟩ := h
  refine tD.seq hS hE q fun ι1 H1 u y S1 _ x1 s1 e1 r1 q1 => ?_
  refine tD.seq s1 e1 q1 fun ι2 H2 v x S2 _ x2 s2 e2 r2 q2 => ?_
  cases e : dGetF S2 x y with
  | none => rw [e] at q2; exact q2.elim
  | some od =>
    rw [e] at q2
    obtain ⟨a, g, rfl, _, hg, h⟩ := dget_at s2 r2 (r1.ext x2) e
    refine ⟨a, g, rfl, hg, ?_⟩
    have he : g.isSome = od.isSome := by
      rcases h with ⟨rfl, rfl⟩ | ⟨w, d, rfl, rfl, _⟩ <;> rfl
    rw [he]
    exact Aft.done q2 s2 (.bl _)
theorem se_din (hu : Roomy X) (hi : SE X W i ci) (ho : SE X W o co) (h1 : behindInMarks .In o = false := by rfl) : SE X W (.Compare i [.In] [o] pos) (cDIn false ci co) := PE.weak (pe_cmp (pc_din hu.one hi ho) h1) fun σ H Q h => din_imp h
theorem st_din (hu : Roomy X) (hi : SE X W i ci) (ho : SE X W o co) (h1 : behindInMarks .In o = false := by rfl) : ST X W (.Compare i [.In] [o] pos) (cTst (cDIn false ci co)) := PT.weak (pt_cmp (pc_din hu.one hi ho) h1) fun σ H Q h => din_imp (tDT_tst h)
theorem dnin_imp {σ : L2.St} {H : Hp} {Q : VK} (h : tD X.K X.mg W (cDIn true ci co) σ H Q) : tDNotIn (tD X.K X.mg W ci) (tD X.K X.mg W co) σ H Q := by
  obtain ⟨ι, env, S, hS, hE, q⟩ := h
  refine tD.seq hS hE q fun ι1 H1 u y S1 _ x1 s1 e1 r1 q1 => ?_
  refine tD.seq s1 e1 q1 fun ι2 H2 v x S2 _ x2 s2 e2 r2 q2 => ?_
  cases e : dGetF S2 x y with
  | none => rw [e] at q2; exact q2.elim
  | some od =>
    rw [e] at q2
    obtain ⟨a, g, rfl, _, hg, h⟩ := dget_at s2 r2 (r1.ext x2) e
    refine ⟨a, g, rfl, hg, ?_⟩
    have he : g.isSome = od.isSome := by
      rcases h with ⟨rfl, rfl⟩ | ⟨w, d, rfl, rfl, _⟩ <;> rfl
    rw [he]
    exact Aft.done q2 s2 (.bl _)
theorem se_dnin (hu : Roomy X) (hi : SE X W i ci) (ho : SE X W o co) (h1 : behindInMarks .NotIn o = false := by rfl) : SE X W (.Compare i [.NotIn] [o] pos) (cDIn true ci co) := PE.weak (pe_cmp (pc_dnotin hu.one hi ho) h1) fun σ H Q h => dnin_imp h
theorem st_dnin (hu : Roomy X) (hi : SE X W i ci) (ho : SE X W o co) (h1 : behindInMarks .NotIn o = false := by rfl) : ST X W (.Compare i [.NotIn] [o] pos) (cTst (cDIn true ci co)) := PT.weak (pt_cmp (pc_dnotin hu.one hi ho) h1) fun σ H Q h => dnin_imp (tDT_tst h)
theorem se_dget2 (hu : Roomy X) (ho : SE X W o co) (hi : SE X W i ci) (hx : SE X W e cx) (m : M2 X o "get" apos i e cpos) : SE X W (.Call (.Attribute o "get" apos) [i, e] [] cpos) (cDGet2 co ci cx) := PE.weak (pe_dget2 hu.one ho hi hx m) fun σ H Q h => by
  obtain ⟨ι, env, S, hS, hE, q⟩ := h
  refine tD.seq hS hE q fun ι1 H1 v x S1 _ x1 s1 e1 r1 q1 => ?_
  split at q1
  · rename_i hd
    obtain ⟨p, hp⟩ := Option.isSome_iff_exists.mp hd
    obtain ⟨n, a, vs, rfl, hn, rfl, ha, hl, hH, l⟩ := dct_at s1 r1 hp
    refine ⟨a, rfl, .inr ⟨_, .inl hH⟩, ?_⟩
    refine tD.seq s1 e1 q1 fun ι2 H2 u y S2 _ x2 s2 e2 r2 q2 => ?_
    refine tD.seq s2 e2 q2 fun ι3 H3 w z S3 _ x3 s3 e3 r3 q3 => ?_
    cases e : dGetF S3 (.cel n) y with
    | none => rw [e] at q3; exact q3.elim
    | some od =>
      rw [e] at q3
      obtain ⟨a', g, ea, _, hg, h⟩ := dget_at s3 ((r1.ext x2).ext x3) (r2.ext x3) e
      cases ea
      refine ⟨g, hg, ?_⟩
      rcases h with ⟨rfl, rfl⟩ | ⟨w', d, rfl, rfl, rd⟩
      · exact Aft.done q3 s3 r3
      · exact Aft.done q3 s3 rd
  · exact q1.elim
theorem ss_dput (hu : Roomy X) (ho : SE X W o co) (hi : SE X W i ci) (hv : SE X W value cv) (hs : swapsWith value (some (.Subscript o i pos')) pos.line X.env = pure false := by rfl) :
    SS X W (.Assign [.Subscript o i pos'] value pos) (sDPut co ci cv) := PS.weak (ps_dput hu.one ho hi hv hs) fun D σ H h => by
  obtain ⟨ι, env, S, hS, hE, q⟩ := h
  refine tD.th hS hE q fun ι1 H1 w d S1 _ x1 s1 e1 r1 q1 => ?_
  refine tD.th s1 e1 q1 fun ι2 H2 v x S2 _ x2 s2 e2 r2 q2 => ?_
  refine tD.th s2 e2 q2 fun ι3 H3 u y S3 _ x3 s3 e3 r3 q3 => ?_
  cases e : dPutF S3 x y d with
  | none => rw [e] at q3; exact q3.elim
  | some S4 =>
    rw [e] at q3
    obtain ⟨a, H4, rfl, hp, x4, s4⟩ := dput_at s3 (r2.ext x3) r3 ((r1.ext x2).ext x3) e
    exact ⟨a, H4, rfl, hp, q3 ι3 H4 σ x4 s4 (e3.ext x4)⟩
end
@[simp] theorem cDNew_ap (env : Env) (S : Sto) : cDNew env S = .ok (.cel S.length) (S ++ [.dct [] []]) := (rfl)
@[simp] theorem cDGet_ap (co ci : DEn) (env : Env) (S : Sto) : cDGet co ci env S = (co env S).bind fun x S1 => (ci env S1).bind fun y S2 => match dGetF S2 x y with
  | some (some d) => .ok d S2
  | _ => .bad := (rfl)
@[simp] theorem cDGet2_ap (co ci cx : DEn) (env : Env) (S : Sto) : cDGet2 co ci cx env S = (co env S).bind fun x S1 => if (dctOf S1 x).isSome = true then (ci env S1).bind fun y S2 => (cx env S2).bind fun z S3 => (match dGetF S3 x y with
  | some o => .ok (o.getD z) S3
  | none => .bad) else .bad := (rfl)
@[simp] theorem cDIn_ap (ng : Bool) (ci co : DEn) (env : Env) (S : Sto) : cDIn ng ci co env S = (ci env S).bind fun y S1 => (co env S1).bind fun x S2 => match dGetF S2 x y with
  | some o => .ok (.bl (if ng = true then !o.isSome else o.isSome)) S2
  | none => .bad := (rfl)
@[simp] theorem sDPut_ap (co ci cv : DEn) (env : Env) (S : Sto) : sDPut co ci cv env S = (cv env S).th env fun d S1 => (co env S1).th env fun x S2 => (ci env S2).th env fun y S3 => match dPutF S3 x y d with
  | some S4 => .nx env S4
  | none => .bad := (rfl)
end DL
end

section
set_option Elab.async false
set_option linter.all false
set_option maxRecDepth 100000
set_option maxHeartbeats 4000000
set_option autoImplicit false
/-! what the defs are, on data (printed by gen.py) -/
namespace Q
open PySem PySem.Spec PyProof.Rows L2 DL
noncomputable section
/-- a lambda of the text -/
def L_wrong_number : LamT := lamT (top 21) "wrong_number.<locals>.<lambda>"

/-- slots: value -/
def c_is_whole : DSn := sRet (cAnd (cApp fIsi (cCons (cVar 0) (cCons (cK (.ty "int")) (cNil)))) (cNot (cApp fIsi (cCons (cVar 0) (cCons (cK (.ty "bool")) (cNil))))))
def F_is_whole : DFn := runF 1 1 c_is_whole

/-- slots: value, many -/
def c_is_tuple_of : DSn := sRet (cAnd (cApp fIsi (cCons (cVar 0) (cCons (cK (.ty "tuple")) (cNil)))) (cBin oEq (cApp fLen (cCons (cVar 0) (cNil))) (cVar 1)))
def F_is_tuple_of : DFn := runF 2 2 c_is_tuple_of

/-- slots: value, least, most -/
def c_is_row : DSn := sRet (cAnd (cApp fIsi (cCons (cVar 0) (cCons (cK (.ty "tuple")) (cNil)))) (cChn oLe oLe (cVar 1) (cApp fLen (cCons (cVar 0) (cNil))) (cVar 2)))
def F_is_row : DFn := runF 3 3 c_is_row

/-- slots: over, under, common -/
def c_lowest : DSn := sSeq (sSet 2 (cApp fGcd (cCons (cVar 0) (cCons (cVar 1) (cNil))))) (sRet (cTup (cCons (cBin oDiv (cVar 0) (cVar 2)) (cCons (cBin oDiv (cVar 1) (cVar 2)) (cNil)))))
def F_lowest : DFn := runF 2 3 c_lowest

/-- slots: one, other -/
def c_is_less : DSn := sRet (cBin oLt (cBin oMulG (cBin oIx (cVar 0) (cK (.int 0))) (cBin oIx (cVar 1) (cK (.int 1)))) (cBin oMulG (cBin oIx (cVar 1) (cK (.int 0))) (cBin oIx (cVar 0) (cK (.int 1)))))
def F_is_less : DFn := runF 2 2 c_is_less

abbrev g_are_enough_1 : DGn := gNm 3

abbrev t_are_enough_1 : DTn := cTst (cBin oGt (cVar 3) (cK (.int 0)))

abbrev e_are_enough_1 : DEn := cVar 3

/-- slots: votes, seats, rule, number -/
def c_are_enough : DSn := sRet (cOr (cBin oGt (cBin oIx (cVar 2) (cK (.int 0))) (cK (.int 0))) (cBin oGe (cVar 1) (cApp fLen (cCons (cVal (cLc (iSeq (cVar 0)) g_are_enough_1 t_are_enough_1 e_are_enough_1 [3])) (cNil)))))
def F_are_enough : DFn := runF 3 4 c_are_enough

/-- slots: poll -/
def c_parts_of : DSn := sRet (cTup (cCons (cUn (fldD ["Poll"] "votes") (cVar 0)) (cCons (cUn (fldD ["Poll"] "seats") (cVar 0)) (cCons (cUn (fldD ["Poll"] "rule") (cVar 0)) (cNil)))))
def F_parts_of : DFn := runF 1 1 c_parts_of

/-- slots: value -/
def c_check_poll : DSn := sIf (cNotT (cTst (cApp (fIsiC ["Poll"]) (cCons (cVar 0) (cCons (cK (.glo "Poll")) (cNil)))))) (fun _ _ => .bad) (sNil)
def F_check_poll : DFn := runF 1 1 c_check_poll

/-- slots: rule, seat -/
def c_divisor : DSn := sRet (cBin oAddG (cBin oIx (cVar 0) (cK (.int 0))) (cBin oMulG (cBin oIx (cVar 0) (cK (.int 1))) (cBin oSub (cVar 1) (cK (.int 1)))))
def F_divisor : DFn := runF 2 2 c_divisor

/-- slots: poll -/
def c_does_ask : DSn := sRet (cBin oGt (cBin oIx (cUn (fldD ["Poll"] "rule") (cVar 0)) (cK (.int 0))) (cK (.int 0)))
def F_does_ask : DFn := runF 1 1 c_does_ask

abbrev g__law_pool_1 : DGn := gNm 5

abbrev b__law_pool_1 : DSn := sSet 3 (cBin oMod (cBin oAddG (cBin oAddG (cBin oMulG (cVar 3) (cK (.int 48271))) (cBin oMulG (cBin oMod (cVar 5) (cK (.int 2147483399))) (cK (.int 19)))) (cK (.int 7))) (cK (.int 2147483399)))

/-- slots: script, k, cell, mixed, wide, each -/
def c__law_pool : DSn := sSeq (sPar 2 3 (cCons (cApp fSum (cCons (cSlG (cVar 0) (cPart (cVar 1)) (cPart (cBin oAddG (cVar 1) (cK (.int 1))))) (cNil))) (cCons (cBin oAddG (cK (.int 50021)) (cBin oMulG (cK (.int 977)) (cVar 1))) (cNil)))) (sSeq (sSet 4 (cBin oMulG (cBin oMulG (cBin oMulG (cBin oMulG (cBin oMulG (cBin oPow (cK (.int 10)) (cK (.int 64))) (cBin oPow (cK (.int 10)) (cK (.int 64)))) (cBin oPow (cK (.int 10)) (cK (.int 64)))) (cBin oPow (cK (.int 10)) (cK (.int 64)))) (cBin oPow (cK (.int 10)) (cK (.int 64)))) (cBin oPow (cK (.int 10)) (cK (.int 64))))) (sSeq (sFor (iSeq (cSlG (cVar 0) (cNo) (cPart (cK (.int 12))))) g__law_pool_1 b__law_pool_1) (sRet (cBox (cLst (cCons (cIf (cOrT (cTst (cBin oLt (cVar 2) (cK (.int 0)))) (cTst (cBin oGe (cVar 2) (cBin oPow (cK (.int 10)) (cK (.int 18)))))) (cBin oMod (cApp fAbs (cCons (cVar 2) (cNil))) (cVar 4)) (cK (.int 0))) (cCons (cVar 3) (cCons (cK (.int 0)) (cNil)))))))))
def F__law_pool : DFn := runF 2 6 c__law_pool

/-- slots: pool, many, digit, stirred -/
def c__law_take : DSn := sSeq (sIf (cTst (cBin oGt (cBin oIx (cVar 0) (cK (.int 0))) (cK (.int 0)))) (sSeq (sAsg (cApp fDivmod (cCons (cBin oIx (cVar 0) (cK (.int 0))) (cCons (cVar 1) (cNil)))) (gTpn 2 (gsCons (gSubD (cVar 0) (cK (.int 0))) (gsCons (gNm 2) (gsNil))))) (sRet (cVar 2))) (sNil)) (sSeq (sAsg (cBin oAddG (cBin oIx (cVar 0) (cK (.int 2))) (cK (.int 1))) (gSubD (cVar 0) (cK (.int 2)))) (sSeq (sSet 3 (cBin oMod (cBin oAddG (cBin oIx (cVar 0) (cK (.int 1))) (cBin oMulG (cK (.int 28657)) (cBin oIx (cVar 0) (cK (.int 2))))) (cK (.int 2147483399)))) (sSeq (sAsg (cBin oMod (cBin oAddG (cBin oMulG (cVar 3) (cBin oAddG (cBin oMod (cVar 3) (cK (.int 5003))) (cK (.int 48271)))) (cBin oMulG (cK (.int 17)) (cBin oIx (cVar 0) (cK (.int 2))))) (cK (.int 2147483399))) (gSubD (cVar 0) (cK (.int 1)))) (sRet (cBin oMod (cBin oDiv (cBin oIx (cVar 0) (cK (.int 1))) (cK (.int 613))) (cVar 1))))))
def F__law_take : DFn := runF 2 4 c__law_take

abbrev g__law_results_1 : DGn := gNm 5

abbrev b__law_results_1 : DSn := sSet 3 (cBin oMulG (cVar 3) (cApp fMax (cCons (cK (.int 1)) (cCons (cBin oAddG (cBin oIx (cVar 2) (cK (.int 0))) (cBin oMulG (cBin oIx (cVar 2) (cK (.int 1))) (cVar 5))) (cNil)))))

abbrev g__law_results_2 : DGn := gNm 5

abbrev b__law_results_2 : DSn := sSeq (sSet 7 (cBin oAddG (cBin oIx (cVar 2) (cK (.int 0))) (cBin oMulG (cBin oIx (cVar 2) (cK (.int 1))) (cVar 5)))) (sDrop (cMeth fAppend (cVar 4) (cCons (cTup (cCons (cIf (cTst (cBin oGt (cVar 7) (cK (.int 0)))) (cBin oMulG (cBin oIx (cVar 0) (cVar 6)) (cBin oDiv (cVar 3) (cVar 7))) (cBin oPow (cK (.int 10)) (cK (.int 64)))) (cCons (cVar 6) (cNil)))) cNil)))

abbrev g__law_results_3 : DGn := gNm 6

abbrev b__law_results_3 : DSn := sFor (iRng1D (cCons (cIf (cTst (cBin oGt (cBin oIx (cVar 0) (cVar 6)) (cK (.int 0)))) (cVar 1) (cK (.int 0))) (cNil))) g__law_results_2 b__law_results_2

abbrev g__law_results_4 : DGn := gTpn 2 (gsCons (gNm 14) (gsCons (gNm 6) (gsNil)))

abbrev t__law_results_4 : DTn := cTst (cBin oGt (cVar 14) (cVar 8))

abbrev e__law_results_4 : DEn := cVar 6

abbrev g__law_results_5 : DGn := gTpn 2 (gsCons (gNm 14) (gsCons (gNm 6) (gsNil)))

abbrev t__law_results_5 : DTn := cTst (cBin oEq (cVar 14) (cVar 8))

abbrev e__law_results_5 : DEn := cVar 6

abbrev g__law_results_6 : DGn := gNm 13

abbrev t__law_results_6 : DTn := tYesD

abbrev e__law_results_6 : DEn := cBin oAddN (cVar 13) (cTupN (cCons (cVar 6) (cNil)))

abbrev g__law_results_7 : DGn := gNm 6

abbrev b__law_results_7 : DSn := sSet 11 (cBin oAddG (cVar 11) (cVal (cLc (iSeq (cVar 11)) g__law_results_6 t__law_results_6 e__law_results_6 [13])))

abbrev g__law_results_8 : DGn := gNm 6

abbrev t__law_results_8 : DTn := tYesD

abbrev e__law_results_8 : DEn := cBin oAddG (cCount (cVar 9) (cVar 6)) (cCount (cVar 13) (cVar 6))

abbrev g__law_results_9 : DGn := gNm 13

abbrev b__law_results_9 : DSn := sIf (cTst (cBin oEq (cApp fLen (cCons (cVar 13) (cNil))) (cBin oSub (cVar 1) (cApp fLen (cCons (cVar 9) (cNil)))))) (sDrop (cMeth fAppend (cVar 12) (cCons (cApp fTuple (cCons (cVal (cLc (iRng1D (cCons (cApp fLen (cCons (cVar 0) (cNil))) (cNil))) g__law_results_8 t__law_results_8 e__law_results_8 [6])) (cNil))) cNil))) (sNil)

/-- slots: votes, seats, rule, whole, claims, k, party, low, last, sure, ties, found, tables, some, said -/
def c__law_results : DSn := sSeq (sPar 3 4 (cCons (cK (.int 1)) (cCons (cBox (cLst (cNil))) (cNil)))) (sSeq (sFor (iRng1D (cCons (cVar 1) (cNil))) g__law_results_1 b__law_results_1) (sSeq (sFor (iRng1D (cCons (cApp fLen (cCons (cVar 0) (cNil))) (cNil))) g__law_results_3 b__law_results_3) (sSeq (sSet 8 (cBin oIx (cBin oIx (cVal (cRev (cVal (cAppF (fSorted false) (cCons (cVar 4) (cNil)))))) (cBin oSub (cVar 1) (cK (.int 1)))) (cK (.int 0)))) (sSeq (sSet 9 (cVal (cLc (iSeq (cVar 4)) g__law_results_4 t__law_results_4 e__law_results_4 [14, 6]))) (sSeq (sPar 10 11 (cCons (cVal (cAppF (fSorted false) (cCons (cVal (cLc (iSeq (cVar 4)) g__law_results_5 t__law_results_5 e__law_results_5 [14, 6])) (cNil)))) (cCons (cVal (cLst (cCons (cTupN cNil) cNil))) (cNil)))) (sSeq (sFor (iSeq (cVar 10)) g__law_results_7 b__law_results_7) (sSeq (sSet 12 (cBox (cLst (cNil)))) (sSeq (sFor (iSeq (cVar 11)) g__law_results_9 b__law_results_9) (sRet (cVal (cAppF (fSorted false) (cCons (cVar 12) (cNil)))))))))))))
def F__law_results : DFn := runF 3 15 c__law_results

abbrev g__law_ways_1 : DGn := gNm 7

abbrev t__law_ways_1 : DTn := tYesD

abbrev e__law_ways_1 : DEn := cTup (cCons (cBin oAddG (cVar 5) (cTup (cCons (cVar 7) (cNil)))) (cCons (cBin oSub (cVar 6) (cVar 7)) (cNil)))

abbrev g__law_ways_2 : DGn := gTpn 2 (gsCons (gNm 5) (gsCons (gNm 6) (gsNil)))

abbrev b__law_ways_2 : DSn := sDrop (cMeth fExtend (cVar 4) (cCons (cVal (cLc (iRng1D (cCons (cBin oAddG (cVar 6) (cK (.int 1))) (cNil))) g__law_ways_1 t__law_ways_1 e__law_ways_1 [7])) cNil))

abbrev s__law_ways_3 : DSn := sSet 4 (cBox (cLst (cNil)))

abbrev s__law_ways_4 : DSn := sFor (iSeq (cVar 2)) g__law_ways_2 b__law_ways_2

abbrev s__law_ways_5 : DSn := sSet 2 (cVar 4)

abbrev g__law_ways_6 : DGn := gNm 3

abbrev b__law_ways_6 : DSn := sSeq (s__law_ways_3) (sSeq (s__law_ways_4) (s__law_ways_5))

abbrev g__law_ways_7 : DGn := gTpn 2 (gsCons (gNm 5) (gsCons (gNm 6) (gsNil)))

abbrev t__law_ways_7 : DTn := tYesD

abbrev e__law_ways_7 : DEn := cBin oAddG (cVar 5) (cTup (cCons (cVar 6) (cNil)))

abbrev s__law_ways_8 : DSn := sSet 2 (cVal (cLst (cCons (cTup (cCons (cTup (cNil)) (cCons (cVar 0) (cNil)))) (cNil))))

abbrev s__law_ways_9 : DSn := sFor (iRng1D (cCons (cBin oSub (cVar 1) (cK (.int 1))) (cNil))) g__law_ways_6 b__law_ways_6

abbrev s__law_ways_10 : DSn := sRet (cVal (cLc (iSeq (cVar 2)) g__law_ways_7 t__law_ways_7 e__law_ways_7 [5, 6]))

/-- slots: many, parties, found, turn, longer, some, left, k -/
def c__law_ways : DSn := sSeq (s__law_ways_8) (sSeq (s__law_ways_9) (s__law_ways_10))
def F__law_ways : DFn := runF 2 8 c__law_ways

/-- slots: value, least, most -/
def c_is_between : DSn := sRet (cAnd (cApp F_is_whole (cCons (cVar 0) (cNil))) (cChn oLe oLe (cVar 1) (cVar 0) (cVar 2)))
def F_is_between : DFn := runF 3 3 c_is_between

/-- slots: poll -/
def c_check_asked : DSn := sSeq (sDrop (cApp F_check_poll (cCons (cVar 0) (cNil)))) (sIf (cNotT (cTst (cApp F_does_ask (cCons (cVar 0) (cNil))))) (fun _ _ => .bad) (sNil))
def F_check_asked : DFn := runF 1 1 c_check_asked

abbrev s_votes_at_1 : DSn := sSet 6 (cIf (cTst (cBin oGt (cVar 5) (cK (.int 0)))) (cBin oMulG (cApp F_divisor (cCons (cUn (fldD ["Poll"] "rule") (cVar 0)) (cCons (cVar 5) (cNil)))) (cBin oIx (cVar 2) (cK (.int 0)))) (cK (.int 0)))

abbrev s_votes_at_2 : DSn := sDrop (cMeth fAppend (cVar 3) (cCons (cApp fMax (cCons (cVar 4) (cCons (cUn oNeg (cBin oDiv (cUn oNeg (cVar 6)) (cBin oIx (cVar 2) (cK (.int 1))))) (cNil)))) cNil))

abbrev g_votes_at_3 : DGn := gTpn 2 (gsCons (gNm 4) (gsCons (gNm 5) (gsNil)))

abbrev b_votes_at_3 : DSn := sSeq (s_votes_at_1) (s_votes_at_2)

abbrev s_votes_at_4 : DSn := sSet 3 (cBox (cLst (cNil)))

abbrev s_votes_at_5 : DSn := sFor (iZipD (cCons (cUn (fldD ["Poll"] "votes") (cVar 0)) (cCons (cVar 1) (cNil)))) g_votes_at_3 b_votes_at_3

abbrev s_votes_at_6 : DSn := sRet (cApp fTuple (cCons (cVar 3) (cNil)))

/-- slots: poll, table, price, found, own, seats, due -/
def c_votes_at : DSn := sSeq (s_votes_at_4) (sSeq (s_votes_at_5) (s_votes_at_6))
def F_votes_at : DFn := runF 3 7 c_votes_at

abbrev s_least_price_1 : DSn := sSet 6 (cApp F_lowest (cCons (cVar 4) (cCons (cApp F_divisor (cCons (cUn (fldD ["Poll"] "rule") (cVar 0)) (cCons (cBin oAddG (cVar 5) (cK (.int 1))) (cNil)))) (cNil))))

abbrev s_least_price_2 : DSn := sSet 3 (cIf (cTst (cApp F_is_less (cCons (cVar 3) (cCons (cVar 6) (cNil))))) (cVar 6) (cVar 3))

abbrev g_least_price_3 : DGn := gTpn 2 (gsCons (gNm 4) (gsCons (gNm 5) (gsNil)))

abbrev b_least_price_3 : DSn := sSeq (s_least_price_1) (s_least_price_2)

abbrev s_least_price_4 : DSn := sSet 3 (cTup (cCons (cK (.int 0)) (cCons (cK (.int 1)) (cNil))))

abbrev s_least_price_5 : DSn := sFor (iZipD (cCons (cVar 2) (cCons (cVar 1) (cNil)))) g_least_price_3 b_least_price_3

abbrev s_least_price_6 : DSn := sRet (cVar 3)

/-- slots: poll, table, votes, found, own, seats, price -/
def c_least_price : DSn := sSeq (s_least_price_4) (sSeq (s_least_price_5) (s_least_price_6))
def F_least_price : DFn := runF 3 7 c_least_price

/-- slots: pool, some -/
def c__law_of : DSn := sRet (cBin oIx (cVar 1) (cApp F__law_take (cCons (cVar 0) (cCons (cApp fLen (cCons (cVar 1) (cNil))) (cNil)))))
def F__law_of : DFn := runF 2 2 c__law_of

/-- slots: number, ahead -/
def c_lam_wrong_number : DEn := cApp F_is_between (cCons (cVar 0) (cCons (cK (.int 0)) (cCons (cK (.int 999)) (cNil))))
def FL_wrong_number : DFn := runE 2 2 c_lam_wrong_number

/-- slots: value -/
def c_is_seats : DSn := sRet (cApp F_is_between (cCons (cVar 0) (cCons (cK (.int 1)) (cCons (cK (.int 15)) (cNil)))))
def F_is_seats : DFn := runF 1 1 c_is_seats

/-- slots: value -/
def c_is_rule : DSn := sRet (cAnd (cApp F_is_tuple_of (cCons (cVar 0) (cCons (cK (.int 2)) (cNil)))) (cAnd (cApp F_is_between (cCons (cBin oIx (cVar 0) (cK (.int 0))) (cCons (cK (.int 0)) (cCons (cK (.int 9)) (cNil))))) (cApp F_is_between (cCons (cBin oIx (cVar 0) (cK (.int 1))) (cCons (cK (.int 1)) (cCons (cK (.int 9)) (cNil)))))))
def F_is_rule : DFn := runF 1 1 c_is_rule

abbrev g_is_table_1 : DGn := gNm 2

abbrev t_is_table_1 : DTn := tYesD

abbrev e_is_table_1 : DEn := cApp F_is_between (cCons (cVar 2) (cCons (cK (.int 0)) (cCons (cUn (fldD ["Poll"] "seats") (cVar 0)) (cNil))))

/-- slots: poll, value, seats -/
def c_is_table : DSn := sSeq (sIf (cOrT (cNotT (cTst (cApp F_is_tuple_of (cCons (cVar 1) (cCons (cApp fLen (cCons (cUn (fldD ["Poll"] "votes") (cVar 0)) (cNil))) (cNil)))))) (cNotT (cTst (cApp fAll (cCons (cVal (cLc (iSeq (cVar 1)) g_is_table_1 t_is_table_1 e_is_table_1 [2])) (cNil)))))) (sRet (cK (.bl false))) (sNil)) (sRet (cBin oEq (cApp fSum (cCons (cVar 1) (cNil))) (cUn (fldD ["Poll"] "seats") (cVar 0))))
def F_is_table : DFn := runF 2 3 c_is_table

abbrev s_needed_by_1 : DSn := sSet 4 (cApp F_votes_at (cCons (cVar 0) (cCons (cVar 1) (cCons (cVar 2) (cNil)))))

abbrev s_needed_by_2 : DSn := sSet 5 (cApp F_least_price (cCons (cVar 0) (cCons (cVar 1) (cCons (cVar 4) (cNil)))))

abbrev s_needed_by_3 : DSn := sPar 3 2 (cCons (cNot (cApp F_is_less (cCons (cVar 2) (cCons (cVar 5) (cNil))))) (cCons (cVar 5) (cNil)))

abbrev t_needed_by_4 : DTn := cNotT (cTst (cVar 3))

abbrev b_needed_by_4 : DSn := sSeq (s_needed_by_1) (sSeq (s_needed_by_2) (s_needed_by_3))

abbrev s_needed_by_5 : DSn := sPar 2 3 (cCons (cApp F_least_price (cCons (cVar 0) (cCons (cVar 1) (cCons (cUn (fldD ["Poll"] "votes") (cVar 0)) (cNil))))) (cCons (cK (.bl false)) (cNil)))

abbrev s_needed_by_6 : DSn := sWhl (fun _ _ => 10000000) t_needed_by_4 b_needed_by_4

abbrev s_needed_by_7 : DSn := sRet (cVar 4)

/-- slots: poll, table, price, is_done, votes, later -/
def c_needed_by : DSn := sSeq (s_needed_by_5) (sSeq (s_needed_by_6) (s_needed_by_7))
def F_needed_by : DFn := runF 2 6 c_needed_by

/-- slots: pool -/
def c__law_rule : DSn := sRet (cApp F__law_of (cCons (cVar 0) (cCons (cVal (cLst (cCons (cTup (cCons (cK (.int 1)) (cCons (cK (.int 1)) (cNil)))) (cCons (cTup (cCons (cK (.int 1)) (cCons (cK (.int 1)) (cNil)))) (cCons (cTup (cCons (cK (.int 1)) (cCons (cK (.int 2)) (cNil)))) (cCons (cTup (cCons (cK (.int 1)) (cCons (cK (.int 2)) (cNil)))) (cCons (cTup (cCons (cK (.int 2)) (cCons (cK (.int 3)) (cNil)))) (cCons (cTup (cCons (cK (.int 3)) (cCons (cK (.int 1)) (cNil)))) (cCons (cTup (cCons (cK (.int 5)) (cCons (cK (.int 7)) (cNil)))) (cCons (cTup (cCons (cK (.int 9)) (cCons (cK (.int 1)) (cNil)))) (cCons (cTup (cCons (cBin oAddG (cK (.int 1)) (cApp F__law_take (cCons (cVar 0) (cCons (cK (.int 9)) (cNil))))) (cCons (cK (.int 9)) (cNil)))) (cNil)))))))))))) (cNil))))
def F__law_rule : DFn := runF 1 1 c__law_rule

def lamTab : List (LamT × DFn) := [(L_wrong_number, FL_wrong_number)]

theorem app_wrong_number : appL lamTab L_wrong_number = FL_wrong_number := appL_hd

abbrev g_first_wrong_1 : DGn := gTpn 2 (gsCons (gNm 2) (gsCons (gNm 3) (gsNil)))

abbrev b_first_wrong_1 : DSn := sIf (cNotT (cTst (cCallV lamTab 1 (cCons (cVar 3) (cCons (cSlG (cVar 0) (cNo) (cPart (cVar 2))) (cNil)))))) (sRet (cVar 2)) (sNil)

/-- slots: value, is_right, index, each -/
def c_first_wrong : DSn := sSeq (sFor (iEnumD (cCons (cVar 0) (cNil))) g_first_wrong_1 b_first_wrong_1) (sRet (cK .non))
def F_first_wrong : DFn := runF 2 4 c_first_wrong

/-- slots: seats -/
def c_check_seats : DSn := sIf (cNotT (cTst (cApp F_is_seats (cCons (cVar 0) (cNil))))) (fun _ _ => .bad) (sNil)
def F_check_seats : DFn := runF 1 1 c_check_seats

/-- slots: rule -/
def c_check_rule : DSn := sIf (cNotT (cTst (cApp F_is_rule (cCons (cVar 0) (cNil))))) (fun _ _ => .bad) (sNil)
def F_check_rule : DFn := runF 1 1 c_check_rule

/-- slots: poll, value -/
def c_check_table : DSn := sIf (cNotT (cTst (cApp F_is_table (cCons (cVar 0) (cCons (cVar 1) (cNil)))))) (fun _ _ => .bad) (sNil)
def F_check_table : DFn := runF 2 2 c_check_table

abbrev g_more_by_1 : DGn := gTpn 2 (gsCons (gNm 2) (gsCons (gNm 3) (gsNil)))

abbrev t_more_by_1 : DTn := tYesD

abbrev e_more_by_1 : DEn := cBin oSub (cVar 2) (cVar 3)

/-- slots: poll, table, need, own -/
def c_more_by : DSn := sRet (cApp fTuple (cCons (cVal (cLc (iZipD (cCons (cApp F_needed_by (cCons (cVar 0) (cCons (cVar 1) (cNil)))) (cCons (cUn (fldD ["Poll"] "votes") (cVar 0)) (cNil)))) g_more_by_1 t_more_by_1 e_more_by_1 [2, 3])) (cNil)))
def F_more_by : DFn := runF 2 4 c_more_by

abbrev g__law_poll_1 : DGn := gNm 8

abbrev t__law_poll_1 : DTn := tYesD

abbrev e__law_poll_1 : DEn := cApp F__law_of (cCons (cVar 0) (cCons (cVal (cLst (cCons (cApp F__law_take (cCons (cVar 0) (cCons (cBin oAddG (cVar 6) (cK (.int 1))) (cNil)))) (cCons (cApp F__law_take (cCons (cVar 0) (cCons (cBin oAddG (cVar 6) (cK (.int 1))) (cNil)))) (cCons (cVar 6) (cCons (cK (.int 1)) (cNil))))))) (cNil)))

/-- slots: pool, parties, top, seats, many, rule, most, votes, party -/
def c__law_poll : DSn := sSeq (sPar 4 5 (cCons (cBin oAddG (cK (.int 1)) (cApp F__law_take (cCons (cVar 0) (cCons (cVar 1) (cNil))))) (cCons (cApp F__law_rule (cCons (cVar 0) (cNil))) (cNil)))) (sSeq (sSet 6 (cApp F__law_of (cCons (cVar 0) (cCons (cVal (cLst (cCons (cVar 2) (cCons (cVar 2) (cCons (cK (.int 5)) (cCons (cK (.int 30)) (cNil))))))) (cNil))))) (sSeq (sSet 7 (cBox (cLc (iRng1D (cCons (cVar 4) (cNil))) g__law_poll_1 t__law_poll_1 e__law_poll_1 [8]))) (sSeq (sIf (cTst (cBin oEq (cApp fMax (cCons (cVar 7) (cNil))) (cK (.int 0)))) (sAsg (cBin oAddG (cK (.int 1)) (cApp F__law_take (cCons (cVar 0) (cCons (cVar 6) (cNil))))) (gSubD (cVar 7) (cApp F__law_take (cCons (cVar 0) (cCons (cVar 4) (cNil)))))) (sNil)) (sRet (cTup (cCons (cApp fTuple (cCons (cVar 7) (cNil))) (cCons (cBin oAddG (cK (.int 1)) (cApp F__law_take (cCons (cVar 0) (cCons (cVar 3) (cNil))))) (cCons (cVar 5) (cNil)))))))))
def F__law_poll : DFn := runF 4 9 c__law_poll

/-- slots: value -/
def c_wrong_number : DSn := sRet (cApp F_first_wrong (cCons (cVar 0) (cCons (cK (.lam L_wrong_number)) (cNil))))
def F_wrong_number : DFn := runF 1 1 c_wrong_number

/-- slots: poll, table, many -/
def c_votes_for_by : DSn := sSeq (sSet 2 (cApp fSum (cCons (cApp F_more_by (cCons (cVar 0) (cCons (cVar 1) (cNil)))) (cNil)))) (sRet (cIf (cTst (cBin oLe (cVar 2) (cK (.int 99999)))) (cVar 2) (cK .non)))
def F_votes_for_by : DFn := runF 2 3 c_votes_for_by

abbrev g_are_votes_1 : DGn := gNm 1

abbrev t_are_votes_1 : DTn := tYesD

abbrev e_are_votes_1 : DEn := cBin oGt (cVar 1) (cK (.int 0))

/-- slots: value, number -/
def c_are_votes : DSn := sSeq (sIf (cOrT (cNotT (cTst (cApp F_is_row (cCons (cVar 0) (cCons (cK (.int 1)) (cCons (cK (.int 6)) (cNil))))))) (cTst (cBin oNotN (cApp F_wrong_number (cCons (cVar 0) (cNil))) (cK .non)))) (sRet (cK (.bl false))) (sNil)) (sRet (cApp fAny (cCons (cVal (cLc (iSeq (cVar 0)) g_are_votes_1 t_are_votes_1 e_are_votes_1 [1])) (cNil))))
def F_are_votes : DFn := runF 1 2 c_are_votes

/-- slots: poll, table -/
def c_votes_for : DSn := sSeq (sDrop (cApp F_check_asked (cCons (cVar 0) (cNil)))) (sSeq (sDrop (cApp F_check_table (cCons (cVar 0) (cCons (cVar 1) (cNil))))) (sRet (cApp F_votes_for_by (cCons (cVar 0) (cCons (cVar 1) (cNil))))))
def F_votes_for : DFn := runF 2 2 c_votes_for

/-- slots: votes, wrong -/
def c_check_votes : DSn := sSeq (sIf (cNotT (cTst (cApp F_is_row (cCons (cVar 0) (cCons (cK (.int 1)) (cCons (cK (.int 6)) (cNil))))))) (fun _ _ => .bad) (sNil)) (sSeq (sSet 1 (cApp F_wrong_number (cCons (cVar 0) (cNil)))) (sIf (cOrT (cTst (cBin oNotN (cVar 1) (cK .non))) (cNotT (cTst (cApp F_are_votes (cCons (cVar 0) (cNil)))))) (fun _ _ => .bad) (sNil)))
def F_check_votes : DFn := runF 1 2 c_check_votes

/-- slots: self, votes, seats, rule -/
def c_Poll___init__ : DAn := preI (sDrop (cApp F_check_votes (cCons (cVar 1) (cNil)))) (preI (sDrop (cApp F_check_seats (cCons (cVar 2) (cNil)))) (preI (sDrop (cApp F_check_rule (cCons (cVar 3) (cNil)))) (preI (sIf (cNotT (cTst (cApp F_are_enough (cCons (cVar 1) (cCons (cVar 2) (cCons (cVar 3) (cNil))))))) (fun _ _ => .bad) (sNil)) (cCons (cVar 1) (cCons (cVar 2) (cCons (cVar 3) (cNil)))))))
def I_Poll : Addr → List D → Sto → Res (List D) := initF 4 4 c_Poll___init__

abbrev g__law_right_1 : DGn := gTpn 2 (gsCons (gNm 14) (gsCons (gNm 15) (gsNil)))

abbrev t__law_right_1 : DTn := tYesD

abbrev e__law_right_1 : DEn := cBin oAddG (cVar 14) (cVar 15)

abbrev g__law_right_2 : DGn := gNm 11

abbrev b__law_right_2 : DSn := sDPut (cVar 7) (cVar 11) (cDGet2 (cVar 7) (cVar 11) (cVar 8))

abbrev s__law_right_3 : DSn := sSet 10 (cApp fTuple (cCons (cVal (cLc (iZipD (cCons (cVar 2) (cCons (cVar 9) (cNil)))) g__law_right_1 t__law_right_1 e__law_right_1 [14, 15])) (cNil)))

abbrev s__law_right_4 : DSn := sFor (iSeq (cApp F__law_results (cCons (cVar 10) (cCons (cVar 3) (cCons (cVar 4) (cNil)))))) g__law_right_2 b__law_right_2

abbrev g__law_right_5 : DGn := gNm 9

abbrev b__law_right_5 : DSn := sSeq (s__law_right_3) (s__law_right_4)

abbrev g__law_right_6 : DGn := gNm 8

abbrev b__law_right_6 : DSn := sFor (iSeq (cApp F__law_ways (cCons (cVar 8) (cCons (cApp fLen (cCons (cVar 2) (cNil))) (cNil))))) g__law_right_5 b__law_right_5

abbrev s__law_right_7 : DSn := sSet 11 (cApp F__law_of (cCons (cVar 0) (cCons (cVar 6) (cNil))))

abbrev s__law_right_8 : DSn := sSet 13 (cApp F_votes_for (cCons (cVar 5) (cCons (cVar 11) (cNil))))

abbrev s__law_right_9 : DSn := sIf (cOrT (cTst (cBin oNe (cVar 13) (cKw F_votes_for 0 2 [1, 0] cNil (cCons (cVar 11) (cCons (cVar 5) (cNil)))))) (cAndT (cTst (cBin oNotN (cVar 13) (cK .non))) (cOrT (cTst (cApp fIsi (cCons (cVar 13) (cCons (cK (.ty "bool")) (cNil))))) (cTst (cBin oLt (cVar 13) (cK (.int 0))))))) (sRet (cK (.bl false))) (sNil)

abbrev s__law_right_10 : DSn := sIf (cOrT (cAndT (cTst (cDIn false (cVar 11) (cVar 7))) (cTst (cBin oNe (cApp fRepr (cCons (cVar 13) (cNil))) (cApp fRepr (cCons (cDGet (cVar 7) (cVar 11)) (cNil)))))) (cAndT (cTst (cDIn true (cVar 11) (cVar 7))) (cAndT (cTst (cBin oNotN (cVar 13) (cK .non))) (cTst (cBin oLt (cVar 13) (cK (.int 9))))))) (sRet (cK (.bl false))) (sNil)

abbrev g__law_right_11 : DGn := gNm 12

abbrev b__law_right_11 : DSn := sSeq (s__law_right_7) (sSeq (s__law_right_8) (sSeq (s__law_right_9) (s__law_right_10)))

abbrev g__law_right_12 : DGn := gNm 11

abbrev t__law_right_12 : DTn := cTst (cBin oEq (cDGet2 (cVar 7) (cVar 11) (cK (.int 1))) (cK (.int 0)))

abbrev e__law_right_12 : DEn := cBin oEq (cApp F_votes_for (cCons (cVar 5) (cCons (cVar 11) (cNil)))) (cK (.int 0))

abbrev s__law_right_13 : DSn := sAsg (cApp F__law_poll (cCons (cVar 0) (cCons (cBin oIx (cVar 1) (cK (.int 0))) (cCons (cBin oIx (cVar 1) (cK (.int 1))) (cCons (cBin oIx (cVar 1) (cK (.int 2))) (cNil)))))) (gTpn 3 (gsCons (gNm 2) (gsCons (gNm 3) (gsCons (gNm 4) (gsNil)))))

abbrev s__law_right_14 : DSn := sSet 5 (cApp (mkD "Poll" ["votes", "seats", "rule"] I_Poll) (cCons (cVar 2) (cCons (cVar 3) (cCons (cVar 4) (cNil)))))

abbrev s__law_right_15 : DSn := sAsg (cTup (cCons (cApp F__law_ways (cCons (cVar 3) (cCons (cApp fLen (cCons (cVar 2) (cNil))) (cNil)))) (cCons (cDNew) (cNil)))) (gTpn 2 (gsCons (gNm 6) (gsCons (gNm 7) (gsNil))))

abbrev s__law_right_16 : DSn := sFor (iRng1D (cCons (cK (.int 9)) (cNil))) g__law_right_6 b__law_right_6

abbrev s__law_right_17 : DSn := sFor (iRng1D (cCons (cK (.int 8)) (cNil))) g__law_right_11 b__law_right_11

abbrev s__law_right_18 : DSn := sRet (cApp fAll (cCons (cVal (cLc (iSeq (cVar 6)) g__law_right_12 t__law_right_12 e__law_right_12 [11])) (cNil)))

/-- slots: pool, most, votes, seats, rule, poll, tables, due, many, way, later, table, turn, told, one, more -/
def c__law_right : DSn := sSeq (s__law_right_13) (sSeq (s__law_right_14) (sSeq (s__law_right_15) (sSeq (s__law_right_16) (sSeq (s__law_right_17) (s__law_right_18)))))
def F__law_right : DFn := runF 2 16 c__law_right

abbrev g_law_1 : DGn := gNm 3

abbrev b_law_1 : DSn := sIf (cNotT (cTst (cApp F__law_right (cCons (cVar 2) (cCons (cVar 3) (cNil)))))) (sRet (cK (.bl false))) (sNil)

abbrev s_law_2 : DSn := sSet 2 (cApp F__law_pool (cCons (cVar 0) (cCons (cVar 1) (cNil))))

abbrev s_law_3 : DSn := sFor (iSeq (cVal (cLst (cCons (cTup (cCons (cK (.int 3)) (cCons (cK (.int 9)) (cCons (cK (.int 4)) (cNil))))) (cCons (cTup (cCons (cK (.int 3)) (cCons (cK (.int 30)) (cCons (cK (.int 3)) (cNil))))) (cCons (cTup (cCons (cK (.int 2)) (cCons (cK (.int 30)) (cCons (cK (.int 5)) (cNil))))) (cCons (cTup (cCons (cK (.int 3)) (cCons (cK (.int 5)) (cCons (cK (.int 5)) (cNil))))) (cNil)))))))) g_law_1 b_law_1

abbrev g_law_4 : DGn := gNm 1

abbrev b_law_4 : DSn := sSeq (s_law_2) (s_law_3)

abbrev s_law_5 : DSn := sFor (iRng1D (cCons (cApp fMax (cCons (cK (.int 2)) (cCons (cApp fMin (cCons (cApp fLen (cCons (cVar 0) (cNil))) (cCons (cK (.int 3)) (cNil)))) (cNil)))) (cNil))) g_law_4 b_law_4

abbrev s_law_6 : DSn := sRet (cK (.bl true))

/-- slots: script, k, pool, most -/
def c_law : DSn := sSeq (s_law_5) (s_law_6)
def F_law : DFn := runF 1 4 c_law

end
end Q
end

section
set_option Elab.async false
set_option linter.all false
set_option maxRecDepth 100000
set_option maxHeartbeats 4000000
set_option autoImplicit false
/-! the walks (printed by gen.py) -/
namespace Q
open PySem PySem.Spec PyProof.Rows L2 DL
/-- what the names of the text stand for -/
structure Facts (K : PySem.W.Frag) (mg : Str → Option Value) : Prop where
  f_int : mg "int" = none
  f_isinstance : mg "isinstance" = none
  f_bool : mg "bool" = none
  f_tuple : mg "tuple" = none
  f_len : mg "len" = none
  i_gcd : mg "gcd" = some (.builtin "math.gcd")
  k_Poll : ClsK K mg "Poll" ["votes", "seats", "rule"]
  f_sum : mg "sum" = none
  f_abs : mg "abs" = none
  f_divmod : mg "divmod" = none
  f_range : mg "range" = none
  f_max : mg "max" = none
  f_sorted : mg "sorted" = none
  f_zip : mg "zip" = none
  c_MOST_VOTES : ∃ t, mg "MOST_VOTES" = some (.int 999 t)
  c_MOST_SEATS : ∃ t, mg "MOST_SEATS" = some (.int 15 t)
  c_MOST_FIRST : ∃ t, mg "MOST_FIRST" = some (.int 9 t)
  f_all : mg "all" = none
  f_enumerate : mg "enumerate" = none
  c_MOST_MORE : ∃ t, mg "MOST_MORE" = some (.int 99999 t)
  c_MOST_PARTIES : ∃ t, mg "MOST_PARTIES" = some (.int 6 t)
  f_any : mg "any" = none
  f_repr : mg "repr" = none
  f_min : mg "min" = none
theorem bp_is_whole : BindP "is_whole" (top 9) ["value"] := fun _ _ _ _ _ _ us hl => match us, hl with | [_], _ => rfl
theorem sc_is_whole : FnScope ["value"] ["value"] (defScope (top 9)) := ⟨rfl, rfl, rfl, by decide +kernel, rfl, by decide +kernel, by decide +kernel⟩
theorem ok_is_whole {P : Program} {w : World} {K : PySem.W.Frag} {mg : Str → Option Value} {base : Heap} (T : Facts K mg) {f : Addr} {fd : FuncData} (FD : FunD K "is_whole" "is_whole" (defArgs (top 9)) (defBody (top 9)) (defScope (top 9)) [] [] f fd) :
    FnB false P w K mg base (L2.CX P w) 1 f fd ["value"] (spD K mg F_is_whole) := by
  refine fn_b FD sc_is_whole fun cdv A outer s H E hr hgd gX => ?_
  have hu := roomy hr
  have hu6 := roomy6 hr
  have hu4 := roomy4 hr
  unfold c_is_whole
  exact
      (ss_one (ss_ret (se_and (se_bi call_isi p_isi T.f_isinstance (sa_cons (se_var 0) (sa_cons (se_ty T.f_int (by decide +kernel)) (sa_nil)))) (se_one (se_not (se_bi call_isi p_isi T.f_isinstance (sa_cons (se_var 0) (sa_cons (se_ty T.f_bool (by decide +kernel)) (sa_nil)))))))))

theorem bp_is_tuple_of : BindP "is_tuple_of" (top 11) ["value", "many"] := fun _ _ _ _ _ _ us hl => match us, hl with | [_, _], _ => rfl
theorem sc_is_tuple_of : FnScope ["value", "many"] ["value", "many"] (defScope (top 11)) := ⟨rfl, rfl, rfl, by decide +kernel, rfl, by decide +kernel, by decide +kernel⟩
theorem ok_is_tuple_of {P : Program} {w : World} {K : PySem.W.Frag} {mg : Str → Option Value} {base : Heap} (T : Facts K mg) {f : Addr} {fd : FuncData} (FD : FunD K "is_tuple_of" "is_tuple_of" (defArgs (top 11)) (defBody (top 11)) (defScope (top 11)) [] [] f fd) :
    FnB false P w K mg base (L2.CX P w) 1 f fd ["value", "many"] (spD K mg F_is_tuple_of) := by
  refine fn_b FD sc_is_tuple_of fun cdv A outer s H E hr hgd gX => ?_
  have hu := roomy hr
  have hu6 := roomy6 hr
  have hu4 := roomy4 hr
  unfold c_is_tuple_of
  exact
      (ss_one (ss_ret (se_and (se_bi call_isi p_isi T.f_isinstance (sa_cons (se_var 0) (sa_cons (se_ty T.f_tuple (by decide +kernel)) (sa_nil)))) (se_one (se_cmp (op_eqD hu4) p_eq (se_bi DL.call_lenD p_len T.f_len (sa_cons (se_var 0) (sa_nil))) (se_var 1))))))

theorem bp_is_row : BindP "is_row" (top 12) ["value", "least", "most"] := fun _ _ _ _ _ _ us hl => match us, hl with | [_, _, _], _ => rfl
theorem sc_is_row : FnScope ["value", "least", "most"] ["value", "least", "most"] (defScope (top 12)) := ⟨rfl, rfl, rfl, by decide +kernel, rfl, by decide +kernel, by decide +kernel⟩
theorem ok_is_row {P : Program} {w : World} {K : PySem.W.Frag} {mg : Str → Option Value} {base : Heap} (T : Facts K mg) {f : Addr} {fd : FuncData} (FD : FunD K "is_row" "is_row" (defArgs (top 12)) (defBody (top 12)) (defScope (top 12)) [] [] f fd) :
    FnB false P w K mg base (L2.CX P w) 1 f fd ["value", "least", "most"] (spD K mg F_is_row) := by
  refine fn_b FD sc_is_row fun cdv A outer s H E hr hgd gX => ?_
  have hu := roomy hr
  have hu6 := roomy6 hr
  have hu4 := roomy4 hr
  unfold c_is_row
  exact
      (ss_one (ss_ret (se_and (se_bi call_isi p_isi T.f_isinstance (sa_cons (se_var 0) (sa_cons (se_ty T.f_tuple (by decide +kernel)) (sa_nil)))) (se_one (se_chn op_le op_le p_le p_le (se_var 1) (se_bi DL.call_lenD p_len T.f_len (sa_cons (se_var 0) (sa_nil))) (se_var 2))))))

theorem bp_lowest : BindP "lowest" (top 14) ["over", "under"] := fun _ _ _ _ _ _ us hl => match us, hl with | [_, _], _ => rfl
theorem sc_lowest : FnScope ["over", "under", "common"] ["over", "under"] (defScope (top 14)) := ⟨rfl, rfl, rfl, by decide +kernel, rfl, by decide +kernel, by decide +kernel⟩
theorem ok_lowest {P : Program} {w : World} {K : PySem.W.Frag} {mg : Str → Option Value} {base : Heap} (T : Facts K mg) {f : Addr} {fd : FuncData} (FD : FunD K "lowest" "lowest" (defArgs (top 14)) (defBody (top 14)) (defScope (top 14)) [] [] f fd) :
    FnB false P w K mg base (L2.CX P w) 1 f fd ["over", "under"] (spD K mg F_lowest) := by
  refine fn_b FD sc_lowest fun cdv A outer s H E hr hgd gX => ?_
  have hu := roomy hr
  have hu6 := roomy6 hr
  have hu4 := roomy4 hr
  unfold c_lowest
  exact
      (ss_cons (ss_set gX 2 (se_gb cr_gcd p_gcd T.i_gcd (sa_cons (se_var 0) (sa_cons (se_var 1) (sa_nil)))))
      (ss_one (ss_ret (se_tup (sa_cons (se_bin op_fdivW p_div (se_var 0) (se_var 2)) (sa_cons (se_bin op_fdivW p_div (se_var 1) (se_var 2)) (sa_nil)))))))

theorem bp_is_less : BindP "is_less" (top 15) ["one", "other"] := fun _ _ _ _ _ _ us hl => match us, hl with | [_, _], _ => rfl
theorem sc_is_less : FnScope ["one", "other"] ["one", "other"] (defScope (top 15)) := ⟨rfl, rfl, rfl, by decide +kernel, rfl, by decide +kernel, by decide +kernel⟩
theorem ok_is_less {P : Program} {w : World} {K : PySem.W.Frag} {mg : Str → Option Value} {base : Heap} (T : Facts K mg) {f : Addr} {fd : FuncData} (FD : FunD K "is_less" "is_less" (defArgs (top 15)) (defBody (top 15)) (defScope (top 15)) [] [] f fd) :
    FnB false P w K mg base (L2.CX P w) 1 f fd ["one", "other"] (spD K mg F_is_less) := by
  refine fn_b FD sc_is_less fun cdv A outer s H E hr hgd gX => ?_
  have hu := roomy hr
  have hu6 := roomy6 hr
  have hu4 := roomy4 hr
  unfold c_is_less
  exact
      (ss_one (ss_ret (se_cmp op_lt p_lt (se_bin op_mulG p_mulG (se_ix (se_var 0) (se_int)) (se_ix (se_var 1) (se_int))) (se_bin op_mulG p_mulG (se_ix (se_var 1) (se_int)) (se_ix (se_var 0) (se_int))))))

theorem bp_are_enough : BindP "are_enough" (top 25) ["votes", "seats", "rule"] := fun _ _ _ _ _ _ us hl => match us, hl with | [_, _, _], _ => rfl
theorem sc_are_enough : FnScope ["votes", "seats", "rule", "number"] ["votes", "seats", "rule"] (defScope (top 25)) := ⟨rfl, rfl, rfl, by decide +kernel, rfl, by decide +kernel, by decide +kernel⟩
theorem ok_are_enough {P : Program} {w : World} {K : PySem.W.Frag} {mg : Str → Option Value} {base : Heap} (T : Facts K mg) {f : Addr} {fd : FuncData} (FD : FunD K "are_enough" "are_enough" (defArgs (top 25)) (defBody (top 25)) (defScope (top 25)) [] [] f fd) :
    FnB false P w K mg base (L2.CX P w) 1 f fd ["votes", "seats", "rule"] (spD K mg F_are_enough) := by
  refine fn_b FD sc_are_enough fun cdv A outer s H E hr hgd gX => ?_
  have hu := roomy hr
  have hu6 := roomy6 hr
  have hu4 := roomy4 hr
  unfold c_are_enough
  exact
      (ss_one (ss_ret (se_or (se_cmp op_gt p_gt (se_ix (se_var 2) (se_int)) (se_int)) (se_one (se_cmp op_ge p_ge (se_var 1) (se_bi DL.call_lenD p_len T.f_len (sa_cons (se_val (sf_lcg gX [("number", 3)] (si_seq (se_var 0)) (blk_ok ["votes", "seats", "rule", "number"] (defScope (top 25)) rfl rfl (by decide +kernel)) (calm_nm) (fun _ _ _ _ _ gX => sgv_nm gX.calm gX.nd 3) (fun _ _ _ _ _ gX => sts_one (st_cmp op_gt p_gt (se_var 3) (se_int))) (fun _ _ _ _ _ gX => se_var 3))) (sa_nil))))))))

theorem bp_parts_of : BindP "parts_of" (top 30) ["poll"] := fun _ _ _ _ _ _ us hl => match us, hl with | [_], _ => rfl
theorem sc_parts_of : FnScope ["poll"] ["poll"] (defScope (top 30)) := ⟨rfl, rfl, rfl, by decide +kernel, rfl, by decide +kernel, by decide +kernel⟩
theorem ok_parts_of {P : Program} {w : World} {K : PySem.W.Frag} {mg : Str → Option Value} {base : Heap} (T : Facts K mg) {f : Addr} {fd : FuncData} (FD : FunD K "parts_of" "parts_of" (defArgs (top 30)) (defBody (top 30)) (defScope (top 30)) [] [] f fd) :
    FnB false P w K mg base (L2.CX P w) 1 f fd ["poll"] (spD K mg F_parts_of) := by
  refine fn_b FD sc_parts_of fun cdv A outer s H E hr hgd gX => ?_
  have hu := roomy hr
  have hu6 := roomy6 hr
  have hu4 := roomy4 hr
  unfold c_parts_of
  exact
      (ss_one (ss_ret (se_tup (sa_cons (se_fld (fun C h => by cases List.mem_singleton.mp h; exact ⟨_, T.k_Poll, by decide +kernel⟩) (se_var 0)) (sa_cons (se_fld (fun C h => by cases List.mem_singleton.mp h; exact ⟨_, T.k_Poll, by decide +kernel⟩) (se_var 0)) (sa_cons (se_fld (fun C h => by cases List.mem_singleton.mp h; exact ⟨_, T.k_Poll, by decide +kernel⟩) (se_var 0)) (sa_nil)))))))

theorem bp_check_poll : BindP "check_poll" (top 31) ["value"] := fun _ _ _ _ _ _ us hl => match us, hl with | [_], _ => rfl
theorem sc_check_poll : FnScope ["value"] ["value"] (defScope (top 31)) := ⟨rfl, rfl, rfl, by decide +kernel, rfl, by decide +kernel, by decide +kernel⟩
theorem ok_check_poll {P : Program} {w : World} {K : PySem.W.Frag} {mg : Str → Option Value} {base : Heap} (T : Facts K mg) {f : Addr} {fd : FuncData} (FD : FunD K "check_poll" "check_poll" (defArgs (top 31)) (defBody (top 31)) (defScope (top 31)) [] [] f fd) :
    FnB false P w K mg base (L2.CX P w) 1 f fd ["value"] (spD K mg F_check_poll) := by
  refine fn_b FD sc_check_poll fun cdv A outer s H E hr hgd gX => ?_
  have hu := roomy hr
  have hu6 := roomy6 hr
  have hu4 := roomy4 hr
  unfold c_check_poll
  exact
      (ss_one (ss_if (st_not (st_val (se_bi call_isi (p_isiC (fun C h => by cases List.mem_singleton.mp h; exact ⟨_, T.k_Poll⟩)) T.f_isinstance (sa_cons (se_var 0) (sa_cons (se_glo T.k_Poll.m) (sa_nil)))))) (ss_one (ss_bad)) (ss_nil)))

theorem bp_divisor : BindP "divisor" (top 34) ["rule", "seat"] := fun _ _ _ _ _ _ us hl => match us, hl with | [_, _], _ => rfl
theorem sc_divisor : FnScope ["rule", "seat"] ["rule", "seat"] (defScope (top 34)) := ⟨rfl, rfl, rfl, by decide +kernel, rfl, by decide +kernel, by decide +kernel⟩
theorem ok_divisor {P : Program} {w : World} {K : PySem.W.Frag} {mg : Str → Option Value} {base : Heap} (T : Facts K mg) {f : Addr} {fd : FuncData} (FD : FunD K "divisor" "divisor" (defArgs (top 34)) (defBody (top 34)) (defScope (top 34)) [] [] f fd) :
    FnB false P w K mg base (L2.CX P w) 1 f fd ["rule", "seat"] (spD K mg F_divisor) := by
  refine fn_b FD sc_divisor fun cdv A outer s H E hr hgd gX => ?_
  have hu := roomy hr
  have hu6 := roomy6 hr
  have hu4 := roomy4 hr
  unfold c_divisor
  exact
      (ss_one (ss_ret (se_bin op_addG p_addG (se_ix (se_var 0) (se_int)) (se_bin op_mulG p_mulG (se_ix (se_var 0) (se_int)) (se_bin op_sub p_sub (se_var 1) (se_int))))))

theorem bp_does_ask : BindP "does_ask" (top 36) ["poll"] := fun _ _ _ _ _ _ us hl => match us, hl with | [_], _ => rfl
theorem sc_does_ask : FnScope ["poll"] ["poll"] (defScope (top 36)) := ⟨rfl, rfl, rfl, by decide +kernel, rfl, by decide +kernel, by decide +kernel⟩
theorem ok_does_ask {P : Program} {w : World} {K : PySem.W.Frag} {mg : Str → Option Value} {base : Heap} (T : Facts K mg) {f : Addr} {fd : FuncData} (FD : FunD K "does_ask" "does_ask" (defArgs (top 36)) (defBody (top 36)) (defScope (top 36)) [] [] f fd) :
    FnB false P w K mg base (L2.CX P w) 1 f fd ["poll"] (spD K mg F_does_ask) := by
  refine fn_b FD sc_does_ask fun cdv A outer s H E hr hgd gX => ?_
  have hu := roomy hr
  have hu6 := roomy6 hr
  have hu4 := roomy4 hr
  unfold c_does_ask
  exact
      (ss_one (ss_ret (se_cmp op_gt p_gt (se_ix (se_fld (fun C h => by cases List.mem_singleton.mp h; exact ⟨_, T.k_Poll, by decide +kernel⟩) (se_var 0)) (se_int)) (se_int))))

theorem bp__law_pool : BindP "_law_pool" (top 47) ["script", "k"] := fun _ _ _ _ _ _ us hl => match us, hl with | [_, _], _ => rfl
theorem sc__law_pool : FnScope ["script", "k", "cell", "mixed", "wide", "each"] ["script", "k"] (defScope (top 47)) := ⟨rfl, rfl, rfl, by decide +kernel, rfl, by decide +kernel, by decide +kernel⟩
theorem ok__law_pool {P : Program} {w : World} {K : PySem.W.Frag} {mg : Str → Option Value} {base : Heap} (T : Facts K mg) {f : Addr} {fd : FuncData} (FD : FunD K "_law_pool" "_law_pool" (defArgs (top 47)) (defBody (top 47)) (defScope (top 47)) [] [] f fd) :
    FnB false P w K mg base (L2.CX P w) 1 f fd ["script", "k"] (spD K mg F__law_pool) := by
  refine fn_b FD sc__law_pool fun cdv A outer s H E hr hgd gX => ?_
  have hu := roomy hr
  have hu6 := roomy6 hr
  have hu4 := roomy4 hr
  unfold c__law_pool
  exact
      (ss_cons (ss_par gX 2 3 (sa_cons (se_bi (cr_sumA gX.calm) p_sum T.f_sum (sa_cons (se_slg (se_var 0) (so_some (se_var 1)) (so_some (se_bin op_addG p_addG (se_var 1) (se_int)))) (sa_nil))) (sa_cons (se_bin op_addG p_addG (se_int) (se_bin op_mulG p_mulG (se_int) (se_var 1))) (sa_nil))))
      (ss_cons (ss_set gX 4 (se_bin op_mulG p_mulG (se_bin op_mulG p_mulG (se_bin op_mulG p_mulG (se_bin op_mulG p_mulG (se_bin op_mulG p_mulG (se_bin op_pow p_pow (se_int) (se_int)) (se_bin op_pow p_pow (se_int) (se_int))) (se_bin op_pow p_pow (se_int) (se_int))) (se_bin op_pow p_pow (se_int) (se_int))) (se_bin op_pow p_pow (se_int) (se_int))) (se_bin op_pow p_pow (se_int) (se_int))))
      (ss_cons (ss_for gX (si_seq (se_slg (se_var 0) (so_none) (so_some (se_int)))) (sg_nm gX 5) (ss_one (ss_set gX 3 (se_bin op_mod p_mod (se_bin op_addG p_addG (se_bin op_addG p_addG (se_bin op_mulG p_mulG (se_var 3) (se_int)) (se_bin op_mulG p_mulG (se_bin op_mod p_mod (se_var 5) (se_int)) (se_int))) (se_int)) (se_int)))))
      (ss_one (ss_ret (se_box (sf_lst (sa_cons (se_if (st_w (sw_or (st_cmp op_lt p_lt (se_var 2) (se_int)) (sw_or1 (st_cmp op_ge p_ge (se_var 2) (se_bin op_pow p_pow (se_int) (se_int)))))) (se_bin op_mod p_mod (se_bi call_abs p_abs T.f_abs (sa_cons (se_var 2) (sa_nil))) (se_var 4)) (se_int)) (sa_cons (se_var 3) (sa_cons (se_int) (sa_nil)))))))))))

theorem bp__law_take : BindP "_law_take" (top 48) ["pool", "many"] := fun _ _ _ _ _ _ us hl => match us, hl with | [_, _], _ => rfl
theorem sc__law_take : FnScope ["pool", "many", "digit", "stirred"] ["pool", "many"] (defScope (top 48)) := ⟨rfl, rfl, rfl, by decide +kernel, rfl, by decide +kernel, by decide +kernel⟩
theorem ok__law_take {P : Program} {w : World} {K : PySem.W.Frag} {mg : Str → Option Value} {base : Heap} (T : Facts K mg) {f : Addr} {fd : FuncData} (FD : FunD K "_law_take" "_law_take" (defArgs (top 48)) (defBody (top 48)) (defScope (top 48)) [] [] f fd) :
    FnB false P w K mg base (L2.CX P w) 1 f fd ["pool", "many"] (spD K mg F__law_take) := by
  refine fn_b FD sc__law_take fun cdv A outer s H E hr hgd gX => ?_
  have hu := roomy hr
  have hu6 := roomy6 hr
  have hu4 := roomy4 hr
  unfold c__law_take
  exact
      (ss_cons (ss_if (st_cmp op_gt p_gt (se_ix (se_var 0) (se_int)) (se_int)) (ss_cons (ss_asg (se_bi call_divmod p_divmod T.f_divmod (sa_cons (se_ix (se_var 0) (se_int)) (sa_cons (se_var 1) (sa_nil)))) (sg_tpn gX (sgs_cons (sg_sub (se_var 0) (se_int)) (sgs_cons (sg_nm gX 2) (sgs_nil))) 2))
      (ss_one (ss_ret (se_var 2)))) (ss_nil))
      (ss_cons (ss_asg (se_bin op_addG p_addG (se_ix (se_var 0) (se_int)) (se_int)) (sg_sub (se_var 0) (se_int)))
      (ss_cons (ss_set gX 3 (se_bin op_mod p_mod (se_bin op_addG p_addG (se_ix (se_var 0) (se_int)) (se_bin op_mulG p_mulG (se_int) (se_ix (se_var 0) (se_int)))) (se_int)))
      (ss_cons (ss_asg (se_bin op_mod p_mod (se_bin op_addG p_addG (se_bin op_mulG p_mulG (se_var 3) (se_bin op_addG p_addG (se_bin op_mod p_mod (se_var 3) (se_int)) (se_int))) (se_bin op_mulG p_mulG (se_int) (se_ix (se_var 0) (se_int)))) (se_int)) (sg_sub (se_var 0) (se_int)))
      (ss_one (ss_ret (se_bin op_mod p_mod (se_bin op_fdivW p_div (se_ix (se_var 0) (se_int)) (se_int)) (se_var 1))))))))

theorem bp__law_results : BindP "_law_results" (top 52) ["votes", "seats", "rule"] := fun _ _ _ _ _ _ us hl => match us, hl with | [_, _, _], _ => rfl
theorem sc__law_results : FnScope ["votes", "seats", "rule", "whole", "claims", "k", "party", "low", "last", "sure", "ties", "found", "tables", "some", "said"] ["votes", "seats", "rule"] (defScope (top 52)) := ⟨rfl, rfl, rfl, by decide +kernel, rfl, by decide +kernel, by decide +kernel⟩
theorem ok__law_results {P : Program} {w : World} {K : PySem.W.Frag} {mg : Str → Option Value} {base : Heap} (T : Facts K mg) {f : Addr} {fd : FuncData} (FD : FunD K "_law_results" "_law_results" (defArgs (top 52)) (defBody (top 52)) (defScope (top 52)) [] [] f fd) :
    FnB false P w K mg base (L2.CX P w) 1 f fd ["votes", "seats", "rule"] (spD K mg F__law_results) := by
  refine fn_b FD sc__law_results fun cdv A outer s H E hr hgd gX => ?_
  have hu := roomy hr
  have hu6 := roomy6 hr
  have hu4 := roomy4 hr
  unfold c__law_results
  exact
      (ss_cons (ss_par gX 3 4 (sa_cons (se_int) (sa_cons (se_box (sf_lst (sa_nil))) (sa_nil))))
      (ss_cons (ss_for gX (si_rng1 rfl T.f_range (sa_cons (se_var 1) (sa_nil))) (sg_nm gX 5) (ss_one (ss_set gX 3 (se_bin op_mulG p_mulG (se_var 3) (se_bi (cr_maxA mg gX.calm hu) p_mm T.f_max (sa_cons (se_int) (sa_cons (se_bin op_addG p_addG (se_ix (se_var 2) (se_int)) (se_bin op_mulG p_mulG (se_ix (se_var 2) (se_int)) (se_var 5))) (sa_nil))))))))
      (ss_cons (ss_for gX (si_rng1 rfl T.f_range (sa_cons (se_bi DL.call_lenD p_len T.f_len (sa_cons (se_var 0) (sa_nil))) (sa_nil))) (sg_nm gX 6) (ss_one (ss_for gX (si_rng1 rfl T.f_range (sa_cons (se_if (st_cmp op_gt p_gt (se_ix (se_var 0) (se_var 6)) (se_int)) (se_var 1) (se_int)) (sa_nil))) (sg_nm gX 5) (ss_cons (ss_set gX 7 (se_bin op_addG p_addG (se_ix (se_var 2) (se_int)) (se_bin op_mulG p_mulG (se_ix (se_var 2) (se_int)) (se_var 5))))
      (ss_one (ss_expr (se_append (se_var 4) (se_tup (sa_cons (se_if (st_cmp op_gt p_gt (se_var 7) (se_int)) (se_bin op_mulG p_mulG (se_ix (se_var 0) (se_var 6)) (se_bin op_fdivW p_div (se_var 3) (se_var 7))) (se_bin op_pow p_pow (se_int) (se_int))) (sa_cons (se_var 6) (sa_nil)))))))))))
      (ss_cons (ss_set gX 8 (se_ix (se_ix (se_val (sf_rev (se_val (sf_bi (cr_sortA mg hu) p_sort T.f_sorted (sa_cons (se_var 4) (sa_nil)))))) (se_bin op_sub p_sub (se_var 1) (se_int))) (se_int)))
      (ss_cons (ss_set gX 9 (se_val (sf_lcg gX [("said", 14), ("party", 6)] (si_seq (se_var 4)) (blk_ok ["votes", "seats", "rule", "whole", "claims", "k", "party", "low", "last", "sure", "ties", "found", "tables", "some", "said"] (defScope (top 52)) rfl rfl (by decide +kernel)) (calm_tpn (calms_cons (calm_nm) (calms_cons (calm_nm) (calms_nil)))) (fun _ _ _ _ _ gX => sgv_tpn gX.calm (sgsv_cons (calm_nm) (sgv_nm gX.calm gX.nd 14) (sgsv_cons (calm_nm) (sgv_nm gX.calm gX.nd 6) (sgsv_nil))) 2) (fun _ _ _ _ _ gX => sts_one (st_cmp op_gt p_gt (se_var 14) (se_var 8))) (fun _ _ _ _ _ gX => se_var 6))))
      (ss_cons (ss_par gX 10 11 (sa_cons (se_val (sf_bi (cr_sortA mg hu) p_sort T.f_sorted (sa_cons (se_val (sf_lcg gX [("said", 14), ("party", 6)] (si_seq (se_var 4)) (blk_ok ["votes", "seats", "rule", "whole", "claims", "k", "party", "low", "last", "sure", "ties", "found", "tables", "some", "said"] (defScope (top 52)) rfl rfl (by decide +kernel)) (calm_tpn (calms_cons (calm_nm) (calms_cons (calm_nm) (calms_nil)))) (fun _ _ _ _ _ gX => sgv_tpn gX.calm (sgsv_cons (calm_nm) (sgv_nm gX.calm gX.nd 14) (sgsv_cons (calm_nm) (sgv_nm gX.calm gX.nd 6) (sgsv_nil))) 2) (fun _ _ _ _ _ gX => sts_one (st_cmp (op_eqD hu4) p_eq (se_var 14) (se_var 8))) (fun _ _ _ _ _ gX => se_var 6))) (sa_nil)))) (sa_cons (se_val (sf_lst (sa_cons (se_tupN sa_nil) sa_nil))) (sa_nil))))
      (ss_cons (ss_for gX (si_seq (se_var 10)) (sg_nm gX 6) (ss_one (ss_set gX 11 (se_bin op_addG p_addG (se_var 11) (se_val (sf_lcg gX [("some", 13)] (si_seq (se_var 11)) (blk_ok ["votes", "seats", "rule", "whole", "claims", "k", "party", "low", "last", "sure", "ties", "found", "tables", "some", "said"] (defScope (top 52)) rfl rfl (by decide +kernel)) (calm_nm) (fun _ _ _ _ _ gX => sgv_nm gX.calm gX.nd 13) (fun _ _ _ _ _ gX => sts_nil) (fun _ _ _ _ _ gX => se_bin op_catN p_addN (se_var 13) (se_tupN (sa_cons (se_var 6) (sa_nil))))))))))
      (ss_cons (ss_set gX 12 (se_box (sf_lst (sa_nil))))
      (ss_cons (ss_for gX (si_seq (se_var 11)) (sg_nm gX 13) (ss_one (ss_if (st_cmp (op_eqD hu4) p_eq (se_bi DL.call_lenD p_len T.f_len (sa_cons (se_var 13) (sa_nil))) (se_bin op_sub p_sub (se_var 1) (se_bi DL.call_lenD p_len T.f_len (sa_cons (se_var 9) (sa_nil))))) (ss_one (ss_expr (se_append (se_var 12) (se_bt call_tuple_of p_tuple T.f_tuple (sa_cons (se_val (sf_lcg gX [("party", 6)] (si_rng1 rfl T.f_range (sa_cons (se_bi DL.call_lenD p_len T.f_len (sa_cons (se_var 0) (sa_nil))) (sa_nil))) (blk_ok ["votes", "seats", "rule", "whole", "claims", "k", "party", "low", "last", "sure", "ties", "found", "tables", "some", "said"] (defScope (top 52)) rfl rfl (by decide +kernel)) (calm_nm) (fun _ _ _ _ _ gX => sgv_nm gX.calm gX.nd 6) (fun _ _ _ _ _ gX => sts_nil) (fun _ _ _ _ _ gX => se_bin op_addG p_addG (se_count hu (se_var 9) (se_var 6)) (se_count hu (se_var 13) (se_var 6))))) (sa_nil)))))) (ss_nil))))
      (ss_one (ss_ret (se_val (sf_bi (cr_sortA mg hu) p_sort T.f_sorted (sa_cons (se_var 12) (sa_nil)))))))))))))))

theorem bp__law_ways : BindP "_law_ways" (top 53) ["many", "parties"] := fun _ _ _ _ _ _ us hl => match us, hl with | [_, _], _ => rfl
theorem sc__law_ways : FnScope ["many", "parties", "found", "turn", "longer", "some", "left", "k"] ["many", "parties"] (defScope (top 53)) := ⟨rfl, rfl, rfl, by decide +kernel, rfl, by decide +kernel, by decide +kernel⟩
theorem ok__law_ways {P : Program} {w : World} {K : PySem.W.Frag} {mg : Str → Option Value} {base : Heap} (T : Facts K mg) {f : Addr} {fd : FuncData} (FD : FunD K "_law_ways" "_law_ways" (defArgs (top 53)) (defBody (top 53)) (defScope (top 53)) [] [] f fd) :
    FnB false P w K mg base (L2.CX P w) 1 f fd ["many", "parties"] (spD K mg F__law_ways) := by
  refine fn_b FD sc__law_ways fun cdv A outer s H E hr hgd gX => ?_
  have hu := roomy hr
  have hu6 := roomy6 hr
  have hu4 := roomy4 hr
  unfold c__law_ways
  exact
      (ss_cons (ss_set gX 2 (se_val (sf_lst (sa_cons (se_tup (sa_cons (se_tup (sa_nil)) (sa_cons (se_var 0) (sa_nil)))) (sa_nil)))))
      (ss_cons (ss_for gX (si_rng1 rfl T.f_range (sa_cons (se_bin op_sub p_sub (se_var 1) (se_int)) (sa_nil))) (sg_nm gX 3) (ss_cons (ss_set gX 4 (se_box (sf_lst (sa_nil))))
      (ss_cons (ss_for gX (si_seq (se_var 2)) (sg_tpn gX (sgs_cons (sg_nm gX 5) (sgs_cons (sg_nm gX 6) (sgs_nil))) 2) (ss_one (ss_expr (se_extend (se_var 4) (se_val (sf_lcg gX [("k", 7)] (si_rng1 rfl T.f_range (sa_cons (se_bin op_addG p_addG (se_var 6) (se_int)) (sa_nil))) (blk_ok ["many", "parties", "found", "turn", "longer", "some", "left", "k"] (defScope (top 53)) rfl rfl (by decide +kernel)) (calm_nm) (fun _ _ _ _ _ gX => sgv_nm gX.calm gX.nd 7) (fun _ _ _ _ _ gX => sts_nil) (fun _ _ _ _ _ gX => se_tup (sa_cons (se_bin op_addG p_addG (se_var 5) (se_tup (sa_cons (se_var 7) (sa_nil)))) (sa_cons (se_bin op_sub p_sub (se_var 6) (se_var 7)) (sa_nil))))))))))
      (ss_one (ss_set gX 2 (se_var 4))))))
      (ss_one (ss_ret (se_val (sf_lcg gX [("some", 5), ("left", 6)] (si_seq (se_var 2)) (blk_ok ["many", "parties", "found", "turn", "longer", "some", "left", "k"] (defScope (top 53)) rfl rfl (by decide +kernel)) (calm_tpn (calms_cons (calm_nm) (calms_cons (calm_nm) (calms_nil)))) (fun _ _ _ _ _ gX => sgv_tpn gX.calm (sgsv_cons (calm_nm) (sgv_nm gX.calm gX.nd 5) (sgsv_cons (calm_nm) (sgv_nm gX.calm gX.nd 6) (sgsv_nil))) 2) (fun _ _ _ _ _ gX => sts_nil) (fun _ _ _ _ _ gX => se_bin op_addG p_addG (se_var 5) (se_tup (sa_cons (se_var 6) (sa_nil))))))))))

theorem bp_is_between : BindP "is_between" (top 10) ["value", "least", "most"] := fun _ _ _ _ _ _ us hl => match us, hl with | [_, _, _], _ => rfl
theorem sc_is_between : FnScope ["value", "least", "most"] ["value", "least", "most"] (defScope (top 10)) := ⟨rfl, rfl, rfl, by decide +kernel, rfl, by decide +kernel, by decide +kernel⟩
theorem ok_is_between {P : Program} {w : World} {K : PySem.W.Frag} {mg : Str → Option Value} {base : Heap} (T : Facts K mg) (h_is_whole : Has false P w K mg base 1 "is_whole" (top 9) ["value"] F_is_whole) {f : Addr} {fd : FuncData} (FD : FunD K "is_between" "is_between" (defArgs (top 10)) (defBody (top 10)) (defScope (top 10)) [] [] f fd) :
    FnB false P w K mg base (L2.CX P w) 2 f fd ["value", "least", "most"] (spD K mg F_is_between) := by
  refine fn_b FD sc_is_between fun cdv A outer s H E hr hgd gX => ?_
  have hu := roomy hr
  have hu6 := roomy6 hr
  have hu4 := roomy4 hr
  unfold c_is_between
  exact
      (ss_one (ss_ret (se_and (se_callh gX h_is_whole hr (by decide) (fun z => by cases z) bp_is_whole (sa_cons (se_var 0) (sa_nil))) (se_one (se_chn op_le op_le p_le p_le (se_var 1) (se_var 0) (se_var 2))))))

theorem bp_check_asked : BindP "check_asked" (top 37) ["poll"] := fun _ _ _ _ _ _ us hl => match us, hl with | [_], _ => rfl
theorem sc_check_asked : FnScope ["poll"] ["poll"] (defScope (top 37)) := ⟨rfl, rfl, rfl, by decide +kernel, rfl, by decide +kernel, by decide +kernel⟩
theorem ok_check_asked {P : Program} {w : World} {K : PySem.W.Frag} {mg : Str → Option Value} {base : Heap} (T : Facts K mg) (h_check_poll : Has false P w K mg base 1 "check_poll" (top 31) ["value"] F_check_poll) (h_does_ask : Has false P w K mg base 1 "does_ask" (top 36) ["poll"] F_does_ask) {f : Addr} {fd : FuncData} (FD : FunD K "check_asked" "check_asked" (defArgs (top 37)) (defBody (top 37)) (defScope (top 37)) [] [] f fd) :
    FnB false P w K mg base (L2.CX P w) 2 f fd ["poll"] (spD K mg F_check_asked) := by
  refine fn_b FD sc_check_asked fun cdv A outer s H E hr hgd gX => ?_
  have hu := roomy hr
  have hu6 := roomy6 hr
  have hu4 := roomy4 hr
  unfold c_check_asked
  exact
      (ss_cons (ss_expr (se_callh gX h_check_poll hr (by decide) (fun z => by cases z) bp_check_poll (sa_cons (se_var 0) (sa_nil))))
      (ss_one (ss_if (st_not (st_val (se_callh gX h_does_ask hr (by decide) (fun z => by cases z) bp_does_ask (sa_cons (se_var 0) (sa_nil))))) (ss_one (ss_bad)) (ss_nil))))

theorem bp_votes_at : BindP "votes_at" (top 40) ["poll", "table", "price"] := fun _ _ _ _ _ _ us hl => match us, hl with | [_, _, _], _ => rfl
theorem sc_votes_at : FnScope ["poll", "table", "price", "found", "own", "seats", "due"] ["poll", "table", "price"] (defScope (top 40)) := ⟨rfl, rfl, rfl, by decide +kernel, rfl, by decide +kernel, by decide +kernel⟩
theorem ok_votes_at {P : Program} {w : World} {K : PySem.W.Frag} {mg : Str → Option Value} {base : Heap} (T : Facts K mg) (h_divisor : Has false P w K mg base 1 "divisor" (top 34) ["rule", "seat"] F_divisor) {f : Addr} {fd : FuncData} (FD : FunD K "votes_at" "votes_at" (defArgs (top 40)) (defBody (top 40)) (defScope (top 40)) [] [] f fd) :
    FnB false P w K mg base (L2.CX P w) 2 f fd ["poll", "table", "price"] (spD K mg F_votes_at) := by
  refine fn_b FD sc_votes_at fun cdv A outer s H E hr hgd gX => ?_
  have hu := roomy hr
  have hu6 := roomy6 hr
  have hu4 := roomy4 hr
  unfold c_votes_at
  exact
      (ss_cons (ss_set gX 3 (se_box (sf_lst (sa_nil))))
      (ss_cons (ss_for gX (si_zip rfl T.f_zip (sa_cons (se_fld (fun C h => by cases List.mem_singleton.mp h; exact ⟨_, T.k_Poll, by decide +kernel⟩) (se_var 0)) (sa_cons (se_var 1) (sa_nil)))) (sg_tpn gX (sgs_cons (sg_nm gX 4) (sgs_cons (sg_nm gX 5) (sgs_nil))) 2) (ss_cons (ss_set gX 6 (se_if (st_cmp op_gt p_gt (se_var 5) (se_int)) (se_bin op_mulG p_mulG (se_callh gX h_divisor hr (by decide) (fun z => by cases z) bp_divisor (sa_cons (se_fld (fun C h => by cases List.mem_singleton.mp h; exact ⟨_, T.k_Poll, by decide +kernel⟩) (se_var 0)) (sa_cons (se_var 5) (sa_nil)))) (se_ix (se_var 2) (se_int))) (se_int)))
      (ss_one (ss_expr (se_append (se_var 3) (se_bi (cr_maxA mg gX.calm hu) p_mm T.f_max (sa_cons (se_var 4) (sa_cons (se_un un_neg p_neg (se_bin op_fdivW p_div (se_un un_neg p_neg (se_var 6)) (se_ix (se_var 2) (se_int)))) (sa_nil)))))))))
      (ss_one (ss_ret (se_bt call_tuple_of p_tuple T.f_tuple (sa_cons (se_var 3) (sa_nil)))))))

theorem bp_least_price : BindP "least_price" (top 41) ["poll", "table", "votes"] := fun _ _ _ _ _ _ us hl => match us, hl with | [_, _, _], _ => rfl
theorem sc_least_price : FnScope ["poll", "table", "votes", "found", "own", "seats", "price"] ["poll", "table", "votes"] (defScope (top 41)) := ⟨rfl, rfl, rfl, by decide +kernel, rfl, by decide +kernel, by decide +kernel⟩
theorem ok_least_price {P : Program} {w : World} {K : PySem.W.Frag} {mg : Str → Option Value} {base : Heap} (T : Facts K mg) (h_lowest : Has false P w K mg base 1 "lowest" (top 14) ["over", "under"] F_lowest) (h_divisor : Has false P w K mg base 1 "divisor" (top 34) ["rule", "seat"] F_divisor) (h_is_less : Has false P w K mg base 1 "is_less" (top 15) ["one", "other"] F_is_less) {f : Addr} {fd : FuncData} (FD : FunD K "least_price" "least_price" (defArgs (top 41)) (defBody (top 41)) (defScope (top 41)) [] [] f fd) :
    FnB false P w K mg base (L2.CX P w) 2 f fd ["poll", "table", "votes"] (spD K mg F_least_price) := by
  refine fn_b FD sc_least_price fun cdv A outer s H E hr hgd gX => ?_
  have hu := roomy hr
  have hu6 := roomy6 hr
  have hu4 := roomy4 hr
  unfold c_least_price
  exact
      (ss_cons (ss_set gX 3 (se_tup (sa_cons (se_int) (sa_cons (se_int) (sa_nil)))))
      (ss_cons (ss_for gX (si_zip rfl T.f_zip (sa_cons (se_var 2) (sa_cons (se_var 1) (sa_nil)))) (sg_tpn gX (sgs_cons (sg_nm gX 4) (sgs_cons (sg_nm gX 5) (sgs_nil))) 2) (ss_cons (ss_set gX 6 (se_callh gX h_lowest hr (by decide) (fun z => by cases z) bp_lowest (sa_cons (se_var 4) (sa_cons (se_callh gX h_divisor hr (by decide) (fun z => by cases z) bp_divisor (sa_cons (se_fld (fun C h => by cases List.mem_singleton.mp h; exact ⟨_, T.k_Poll, by decide +kernel⟩) (se_var 0)) (sa_cons (se_bin op_addG p_addG (se_var 5) (se_int)) (sa_nil)))) (sa_nil)))))
      (ss_one (ss_set gX 3 (se_if (st_val (se_callh gX h_is_less hr (by decide) (fun z => by cases z) bp_is_less (sa_cons (se_var 3) (sa_cons (se_var 6) (sa_nil))))) (se_var 6) (se_var 3))))))
      (ss_one (ss_ret (se_var 3)))))

theorem bp__law_of : BindP "_law_of" (top 49) ["pool", "some"] := fun _ _ _ _ _ _ us hl => match us, hl with | [_, _], _ => rfl
theorem sc__law_of : FnScope ["pool", "some"] ["pool", "some"] (defScope (top 49)) := ⟨rfl, rfl, rfl, by decide +kernel, rfl, by decide +kernel, by decide +kernel⟩
theorem ok__law_of {P : Program} {w : World} {K : PySem.W.Frag} {mg : Str → Option Value} {base : Heap} (T : Facts K mg) (h__law_take : Has false P w K mg base 1 "_law_take" (top 48) ["pool", "many"] F__law_take) {f : Addr} {fd : FuncData} (FD : FunD K "_law_of" "_law_of" (defArgs (top 49)) (defBody (top 49)) (defScope (top 49)) [] [] f fd) :
    FnB false P w K mg base (L2.CX P w) 2 f fd ["pool", "some"] (spD K mg F__law_of) := by
  refine fn_b FD sc__law_of fun cdv A outer s H E hr hgd gX => ?_
  have hu := roomy hr
  have hu6 := roomy6 hr
  have hu4 := roomy4 hr
  unfold c__law_of
  exact
      (ss_one (ss_ret (se_ix (se_var 1) (se_callh gX h__law_take hr (by decide) (fun z => by cases z) bp__law_take (sa_cons (se_var 0) (sa_cons (se_bi DL.call_lenD p_len T.f_len (sa_cons (se_var 1) (sa_nil))) (sa_nil)))))))

theorem sc_lam_wrong_number : FnScope ["number", "ahead"] ["number", "ahead"] (L_wrong_number).scope := ⟨rfl, rfl, rfl, by decide +kernel, rfl, by decide +kernel, by decide +kernel⟩
theorem ok_lam_wrong_number {P : Program} {w : World} {K : PySem.W.Frag} {mg : Str → Option Value} {base : Heap} (T : Facts K mg) (h_is_between : Has false P w K mg base 2 "is_between" (top 10) ["value", "least", "most"] F_is_between) : LamRun false P w K mg base 3 L_wrong_number FL_wrong_number := by
  refine lam_b sc_lam_wrong_number (fun _ _ _ us hl => match us, hl with | [_, _], _ => rfl) fun cdv f A outer s H E hr hgd gX => ?_
  have hu := roomy hr
  have hu6 := roomy6 hr
  have hu4 := roomy4 hr
  unfold c_lam_wrong_number
  exact
      (se_callh gX h_is_between hr (by decide) (fun z => by cases z) bp_is_between (sa_cons (se_var 0) (sa_cons (se_int) (sa_cons (se_gint T.c_MOST_VOTES) (sa_nil)))))

theorem bp_is_seats : BindP "is_seats" (top 23) ["value"] := fun _ _ _ _ _ _ us hl => match us, hl with | [_], _ => rfl
theorem sc_is_seats : FnScope ["value"] ["value"] (defScope (top 23)) := ⟨rfl, rfl, rfl, by decide +kernel, rfl, by decide +kernel, by decide +kernel⟩
theorem ok_is_seats {P : Program} {w : World} {K : PySem.W.Frag} {mg : Str → Option Value} {base : Heap} (T : Facts K mg) (h_is_between : Has false P w K mg base 2 "is_between" (top 10) ["value", "least", "most"] F_is_between) {f : Addr} {fd : FuncData} (FD : FunD K "is_seats" "is_seats" (defArgs (top 23)) (defBody (top 23)) (defScope (top 23)) [] [] f fd) :
    FnB false P w K mg base (L2.CX P w) 3 f fd ["value"] (spD K mg F_is_seats) := by
  refine fn_b FD sc_is_seats fun cdv A outer s H E hr hgd gX => ?_
  have hu := roomy hr
  have hu6 := roomy6 hr
  have hu4 := roomy4 hr
  unfold c_is_seats
  exact
      (ss_one (ss_ret (se_callh gX h_is_between hr (by decide) (fun z => by cases z) bp_is_between (sa_cons (se_var 0) (sa_cons (se_int) (sa_cons (se_gint T.c_MOST_SEATS) (sa_nil)))))))

theorem bp_is_rule : BindP "is_rule" (top 24) ["value"] := fun _ _ _ _ _ _ us hl => match us, hl with | [_], _ => rfl
theorem sc_is_rule : FnScope ["value"] ["value"] (defScope (top 24)) := ⟨rfl, rfl, rfl, by decide +kernel, rfl, by decide +kernel, by decide +kernel⟩
theorem ok_is_rule {P : Program} {w : World} {K : PySem.W.Frag} {mg : Str → Option Value} {base : Heap} (T : Facts K mg) (h_is_tuple_of : Has false P w K mg base 1 "is_tuple_of" (top 11) ["value", "many"] F_is_tuple_of) (h_is_between : Has false P w K mg base 2 "is_between" (top 10) ["value", "least", "most"] F_is_between) {f : Addr} {fd : FuncData} (FD : FunD K "is_rule" "is_rule" (defArgs (top 24)) (defBody (top 24)) (defScope (top 24)) [] [] f fd) :
    FnB false P w K mg base (L2.CX P w) 3 f fd ["value"] (spD K mg F_is_rule) := by
  refine fn_b FD sc_is_rule fun cdv A outer s H E hr hgd gX => ?_
  have hu := roomy hr
  have hu6 := roomy6 hr
  have hu4 := roomy4 hr
  unfold c_is_rule
  exact
      (ss_one (ss_ret (se_and (se_callh gX h_is_tuple_of hr (by decide) (fun z => by cases z) bp_is_tuple_of (sa_cons (se_var 0) (sa_cons (se_int) (sa_nil)))) (se_and (se_callh gX h_is_between hr (by decide) (fun z => by cases z) bp_is_between (sa_cons (se_ix (se_var 0) (se_int)) (sa_cons (se_int) (sa_cons (se_gint T.c_MOST_FIRST) (sa_nil))))) (se_one (se_callh gX h_is_between hr (by decide) (fun z => by cases z) bp_is_between (sa_cons (se_ix (se_var 0) (se_int)) (sa_cons (se_int) (sa_cons (se_gint T.c_MOST_FIRST) (sa_nil))))))))))

theorem bp_is_table : BindP "is_table" (top 32) ["poll", "value"] := fun _ _ _ _ _ _ us hl => match us, hl with | [_, _], _ => rfl
theorem sc_is_table : FnScope ["poll", "value", "seats"] ["poll", "value"] (defScope (top 32)) := ⟨rfl, rfl, rfl, by decide +kernel, rfl, by decide +kernel, by decide +kernel⟩
theorem ok_is_table {P : Program} {w : World} {K : PySem.W.Frag} {mg : Str → Option Value} {base : Heap} (T : Facts K mg) (h_is_tuple_of : Has false P w K mg base 1 "is_tuple_of" (top 11) ["value", "many"] F_is_tuple_of) (h_is_between : Has false P w K mg base 2 "is_between" (top 10) ["value", "least", "most"] F_is_between) {f : Addr} {fd : FuncData} (FD : FunD K "is_table" "is_table" (defArgs (top 32)) (defBody (top 32)) (defScope (top 32)) [] [] f fd) :
    FnB false P w K mg base (L2.CX P w) 3 f fd ["poll", "value"] (spD K mg F_is_table) := by
  refine fn_b FD sc_is_table fun cdv A outer s H E hr hgd gX => ?_
  have hu := roomy hr
  have hu6 := roomy6 hr
  have hu4 := roomy4 hr
  unfold c_is_table
  exact
      (ss_cons (ss_if (st_w (sw_or (st_not (st_val (se_callh gX h_is_tuple_of hr (by decide) (fun z => by cases z) bp_is_tuple_of (sa_cons (se_var 1) (sa_cons (se_bi DL.call_lenD p_len T.f_len (sa_cons (se_fld (fun C h => by cases List.mem_singleton.mp h; exact ⟨_, T.k_Poll, by decide +kernel⟩) (se_var 0)) (sa_nil))) (sa_nil)))))) (sw_or1 (st_not (st_val (se_bi (cr_allA gX.calm) p_all T.f_all (sa_cons (se_val (sf_lcg gX [("seats", 2)] (si_seq (se_var 1)) (blk_ok ["poll", "value", "seats"] (defScope (top 32)) rfl rfl (by decide +kernel)) (calm_nm) (fun _ _ _ _ _ gX => sgv_nm gX.calm gX.nd 2) (fun _ _ _ _ _ gX => sts_nil) (fun _ _ _ _ _ gX => se_callh gX h_is_between hr (by decide) (fun z => by cases z) bp_is_between (sa_cons (se_var 2) (sa_cons (se_int) (sa_cons (se_fld (fun C h => by cases List.mem_singleton.mp h; exact ⟨_, T.k_Poll, by decide +kernel⟩) (se_var 0)) (sa_nil))))))) (sa_nil)))))))) (ss_one (ss_ret (se_bl))) (ss_nil))
      (ss_one (ss_ret (se_cmp (op_eqD hu4) p_eq (se_bi (cr_sumA gX.calm) p_sum T.f_sum (sa_cons (se_var 1) (sa_nil))) (se_fld (fun C h => by cases List.mem_singleton.mp h; exact ⟨_, T.k_Poll, by decide +kernel⟩) (se_var 0))))))

theorem bp_needed_by : BindP "needed_by" (top 42) ["poll", "table"] := fun _ _ _ _ _ _ us hl => match us, hl with | [_, _], _ => rfl
theorem sc_needed_by : FnScope ["poll", "table", "price", "is_done", "votes", "later"] ["poll", "table"] (defScope (top 42)) := ⟨rfl, rfl, rfl, by decide +kernel, rfl, by decide +kernel, by decide +kernel⟩
theorem ok_needed_by {P : Program} {w : World} {K : PySem.W.Frag} {mg : Str → Option Value} {base : Heap} (T : Facts K mg) (h_least_price : Has false P w K mg base 2 "least_price" (top 41) ["poll", "table", "votes"] F_least_price) (h_votes_at : Has false P w K mg base 2 "votes_at" (top 40) ["poll", "table", "price"] F_votes_at) (h_is_less : Has false P w K mg base 1 "is_less" (top 15) ["one", "other"] F_is_less) {f : Addr} {fd : FuncData} (FD : FunD K "needed_by" "needed_by" (defArgs (top 42)) (defBody (top 42)) (defScope (top 42)) [] [] f fd) :
    FnB false P w K mg base (L2.CX P w) 3 f fd ["poll", "table"] (spD K mg F_needed_by) := by
  refine fn_b FD sc_needed_by fun cdv A outer s H E hr hgd gX => ?_
  have hu := roomy hr
  have hu6 := roomy6 hr
  have hu4 := roomy4 hr
  unfold c_needed_by
  exact
      (ss_cons (ss_par gX 2 3 (sa_cons (se_callh gX h_least_price hr (by decide) (fun z => by cases z) bp_least_price (sa_cons (se_var 0) (sa_cons (se_var 1) (sa_cons (se_fld (fun C h => by cases List.mem_singleton.mp h; exact ⟨_, T.k_Poll, by decide +kernel⟩) (se_var 0)) (sa_nil))))) (sa_cons (se_bl) (sa_nil))))
      (ss_cons (ss_whl gX (fun _ _ => 10000000) (st_not (st_val (se_var 3))) (ss_cons (ss_set gX 4 (se_callh gX h_votes_at hr (by decide) (fun z => by cases z) bp_votes_at (sa_cons (se_var 0) (sa_cons (se_var 1) (sa_cons (se_var 2) (sa_nil))))))
      (ss_cons (ss_set gX 5 (se_callh gX h_least_price hr (by decide) (fun z => by cases z) bp_least_price (sa_cons (se_var 0) (sa_cons (se_var 1) (sa_cons (se_var 4) (sa_nil))))))
      (ss_one (ss_par gX 3 2 (sa_cons (se_not (se_callh gX h_is_less hr (by decide) (fun z => by cases z) bp_is_less (sa_cons (se_var 2) (sa_cons (se_var 5) (sa_nil))))) (sa_cons (se_var 5) (sa_nil))))))))
      (ss_one (ss_ret (se_var 4)))))

theorem bp__law_rule : BindP "_law_rule" (top 50) ["pool"] := fun _ _ _ _ _ _ us hl => match us, hl with | [_], _ => rfl
theorem sc__law_rule : FnScope ["pool"] ["pool"] (defScope (top 50)) := ⟨rfl, rfl, rfl, by decide +kernel, rfl, by decide +kernel, by decide +kernel⟩
theorem ok__law_rule {P : Program} {w : World} {K : PySem.W.Frag} {mg : Str → Option Value} {base : Heap} (T : Facts K mg) (h__law_of : Has false P w K mg base 2 "_law_of" (top 49) ["pool", "some"] F__law_of) (h__law_take : Has false P w K mg base 1 "_law_take" (top 48) ["pool", "many"] F__law_take) {f : Addr} {fd : FuncData} (FD : FunD K "_law_rule" "_law_rule" (defArgs (top 50)) (defBody (top 50)) (defScope (top 50)) [] [] f fd) :
    FnB false P w K mg base (L2.CX P w) 3 f fd ["pool"] (spD K mg F__law_rule) := by
  refine fn_b FD sc__law_rule fun cdv A outer s H E hr hgd gX => ?_
  have hu := roomy hr
  have hu6 := roomy6 hr
  have hu4 := roomy4 hr
  unfold c__law_rule
  exact
      (ss_one (ss_ret (se_callh gX h__law_of hr (by decide) (fun z => by cases z) bp__law_of (sa_cons (se_var 0) (sa_cons (se_val (sf_lst (sa_cons (se_tup (sa_cons (se_int) (sa_cons (se_int) (sa_nil)))) (sa_cons (se_tup (sa_cons (se_int) (sa_cons (se_int) (sa_nil)))) (sa_cons (se_tup (sa_cons (se_int) (sa_cons (se_int) (sa_nil)))) (sa_cons (se_tup (sa_cons (se_int) (sa_cons (se_int) (sa_nil)))) (sa_cons (se_tup (sa_cons (se_int) (sa_cons (se_int) (sa_nil)))) (sa_cons (se_tup (sa_cons (se_int) (sa_cons (se_int) (sa_nil)))) (sa_cons (se_tup (sa_cons (se_int) (sa_cons (se_int) (sa_nil)))) (sa_cons (se_tup (sa_cons (se_int) (sa_cons (se_int) (sa_nil)))) (sa_cons (se_tup (sa_cons (se_bin op_addG p_addG (se_int) (se_callh gX h__law_take hr (by decide) (fun z => by cases z) bp__law_take (sa_cons (se_var 0) (sa_cons (se_int) (sa_nil))))) (sa_cons (se_int) (sa_nil)))) (sa_nil)))))))))))) (sa_nil))))))

theorem bp_first_wrong : BindP "first_wrong" (top 13) ["value", "is_right"] := fun _ _ _ _ _ _ us hl => match us, hl with | [_, _], _ => rfl
theorem sc_first_wrong : FnScope ["value", "is_right", "index", "each"] ["value", "is_right"] (defScope (top 13)) := ⟨rfl, rfl, rfl, by decide +kernel, rfl, by decide +kernel, by decide +kernel⟩
theorem ok_first_wrong {P : Program} {w : World} {K : PySem.W.Frag} {mg : Str → Option Value} {base : Heap} (T : Facts K mg) {f : Addr} {fd : FuncData} (hLT0 : ∀ q ∈ lamTab, LamRun false P w K mg base 3 q.1 q.2) (FD : FunD K "first_wrong" "first_wrong" (defArgs (top 13)) (defBody (top 13)) (defScope (top 13)) [] [] f fd) :
    FnB false P w K mg base (L2.CX P w) 4 f fd ["value", "is_right"] (spD K mg F_first_wrong) := by
  refine fn_b FD sc_first_wrong fun cdv A outer s H E hr hgd gX => ?_
  have hu := roomy hr
  have hu6 := roomy6 hr
  have hu4 := roomy4 hr
  have hLT := fun q hq => (hLT0 q hq).mono (show 3 ≤ 3 by decide)
  unfold c_first_wrong
  exact
      (ss_cons (ss_for gX (si_enum rfl T.f_enumerate (sa_cons (se_var 0) (sa_nil))) (sg_tpn gX (sgs_cons (sg_nm gX 2) (sgs_cons (sg_nm gX 3) (sgs_nil))) 2) (ss_one (ss_if (st_not (st_val (se_callv (g := false) gX 1 hLT hr (fun z => by cases z) (sa_cons (se_var 3) (sa_cons (se_slg (se_var 0) (so_none) (so_some (se_var 2))) (sa_nil)))))) (ss_one (ss_ret (se_var 2))) (ss_nil))))
      (ss_one (ss_ret (se_non))))

theorem bp_check_seats : BindP "check_seats" (top 27) ["seats"] := fun _ _ _ _ _ _ us hl => match us, hl with | [_], _ => rfl
theorem sc_check_seats : FnScope ["seats"] ["seats"] (defScope (top 27)) := ⟨rfl, rfl, rfl, by decide +kernel, rfl, by decide +kernel, by decide +kernel⟩
theorem ok_check_seats {P : Program} {w : World} {K : PySem.W.Frag} {mg : Str → Option Value} {base : Heap} (T : Facts K mg) (h_is_seats : Has false P w K mg base 3 "is_seats" (top 23) ["value"] F_is_seats) {f : Addr} {fd : FuncData} (FD : FunD K "check_seats" "check_seats" (defArgs (top 27)) (defBody (top 27)) (defScope (top 27)) [] [] f fd) :
    FnB false P w K mg base (L2.CX P w) 4 f fd ["seats"] (spD K mg F_check_seats) := by
  refine fn_b FD sc_check_seats fun cdv A outer s H E hr hgd gX => ?_
  have hu := roomy hr
  have hu6 := roomy6 hr
  have hu4 := roomy4 hr
  unfold c_check_seats
  exact
      (ss_one (ss_if (st_not (st_val (se_callh gX h_is_seats hr (by decide) (fun z => by cases z) bp_is_seats (sa_cons (se_var 0) (sa_nil))))) (ss_one (ss_bad)) (ss_nil)))

theorem bp_check_rule : BindP "check_rule" (top 28) ["rule"] := fun _ _ _ _ _ _ us hl => match us, hl with | [_], _ => rfl
theorem sc_check_rule : FnScope ["rule"] ["rule"] (defScope (top 28)) := ⟨rfl, rfl, rfl, by decide +kernel, rfl, by decide +kernel, by decide +kernel⟩
theorem ok_check_rule {P : Program} {w : World} {K : PySem.W.Frag} {mg : Str → Option Value} {base : Heap} (T : Facts K mg) (h_is_rule : Has false P w K mg base 3 "is_rule" (top 24) ["value"] F_is_rule) {f : Addr} {fd : FuncData} (FD : FunD K "check_rule" "check_rule" (defArgs (top 28)) (defBody (top 28)) (defScope (top 28)) [] [] f fd) :
    FnB false P w K mg base (L2.CX P w) 4 f fd ["rule"] (spD K mg F_check_rule) := by
  refine fn_b FD sc_check_rule fun cdv A outer s H E hr hgd gX => ?_
  have hu := roomy hr
  have hu6 := roomy6 hr
  have hu4 := roomy4 hr
  unfold c_check_rule
  exact
      (ss_one (ss_if (st_not (st_val (se_callh gX h_is_rule hr (by decide) (fun z => by cases z) bp_is_rule (sa_cons (se_var 0) (sa_nil))))) (ss_one (ss_bad)) (ss_nil)))

theorem bp_check_table : BindP "check_table" (top 33) ["poll", "value"] := fun _ _ _ _ _ _ us hl => match us, hl with | [_, _], _ => rfl
theorem sc_check_table : FnScope ["poll", "value"] ["poll", "value"] (defScope (top 33)) := ⟨rfl, rfl, rfl, by decide +kernel, rfl, by decide +kernel, by decide +kernel⟩
theorem ok_check_table {P : Program} {w : World} {K : PySem.W.Frag} {mg : Str → Option Value} {base : Heap} (T : Facts K mg) (h_is_table : Has false P w K mg base 3 "is_table" (top 32) ["poll", "value"] F_is_table) {f : Addr} {fd : FuncData} (FD : FunD K "check_table" "check_table" (defArgs (top 33)) (defBody (top 33)) (defScope (top 33)) [] [] f fd) :
    FnB false P w K mg base (L2.CX P w) 4 f fd ["poll", "value"] (spD K mg F_check_table) := by
  refine fn_b FD sc_check_table fun cdv A outer s H E hr hgd gX => ?_
  have hu := roomy hr
  have hu6 := roomy6 hr
  have hu4 := roomy4 hr
  unfold c_check_table
  exact
      (ss_one (ss_if (st_not (st_val (se_callh gX h_is_table hr (by decide) (fun z => by cases z) bp_is_table (sa_cons (se_var 0) (sa_cons (se_var 1) (sa_nil)))))) (ss_one (ss_bad)) (ss_nil)))

theorem bp_more_by : BindP "more_by" (top 43) ["poll", "table"] := fun _ _ _ _ _ _ us hl => match us, hl with | [_, _], _ => rfl
theorem sc_more_by : FnScope ["poll", "table", "need", "own"] ["poll", "table"] (defScope (top 43)) := ⟨rfl, rfl, rfl, by decide +kernel, rfl, by decide +kernel, by decide +kernel⟩
theorem ok_more_by {P : Program} {w : World} {K : PySem.W.Frag} {mg : Str → Option Value} {base : Heap} (T : Facts K mg) (h_needed_by : Has false P w K mg base 3 "needed_by" (top 42) ["poll", "table"] F_needed_by) {f : Addr} {fd : FuncData} (FD : FunD K "more_by" "more_by" (defArgs (top 43)) (defBody (top 43)) (defScope (top 43)) [] [] f fd) :
    FnB false P w K mg base (L2.CX P w) 4 f fd ["poll", "table"] (spD K mg F_more_by) := by
  refine fn_b FD sc_more_by fun cdv A outer s H E hr hgd gX => ?_
  have hu := roomy hr
  have hu6 := roomy6 hr
  have hu4 := roomy4 hr
  unfold c_more_by
  exact
      (ss_one (ss_ret (se_bt call_tuple_of p_tuple T.f_tuple (sa_cons (se_val (sf_lcg gX [("need", 2), ("own", 3)] (si_zip rfl T.f_zip (sa_cons (se_callh gX h_needed_by hr (by decide) (fun z => by cases z) bp_needed_by (sa_cons (se_var 0) (sa_cons (se_var 1) (sa_nil)))) (sa_cons (se_fld (fun C h => by cases List.mem_singleton.mp h; exact ⟨_, T.k_Poll, by decide +kernel⟩) (se_var 0)) (sa_nil)))) (blk_ok ["poll", "table", "need", "own"] (defScope (top 43)) rfl rfl (by decide +kernel)) (calm_tpn (calms_cons (calm_nm) (calms_cons (calm_nm) (calms_nil)))) (fun _ _ _ _ _ gX => sgv_tpn gX.calm (sgsv_cons (calm_nm) (sgv_nm gX.calm gX.nd 2) (sgsv_cons (calm_nm) (sgv_nm gX.calm gX.nd 3) (sgsv_nil))) 2) (fun _ _ _ _ _ gX => sts_nil) (fun _ _ _ _ _ gX => se_bin op_sub p_sub (se_var 2) (se_var 3)))) (sa_nil)))))

theorem bp__law_poll : BindP "_law_poll" (top 51) ["pool", "parties", "top", "seats"] := fun _ _ _ _ _ _ us hl => match us, hl with | [_, _, _, _], _ => rfl
theorem sc__law_poll : FnScope ["pool", "parties", "top", "seats", "many", "rule", "most", "votes", "party"] ["pool", "parties", "top", "seats"] (defScope (top 51)) := ⟨rfl, rfl, rfl, by decide +kernel, rfl, by decide +kernel, by decide +kernel⟩
theorem ok__law_poll {P : Program} {w : World} {K : PySem.W.Frag} {mg : Str → Option Value} {base : Heap} (T : Facts K mg) (h__law_rule : Has false P w K mg base 3 "_law_rule" (top 50) ["pool"] F__law_rule) (h__law_take : Has false P w K mg base 1 "_law_take" (top 48) ["pool", "many"] F__law_take) (h__law_of : Has false P w K mg base 2 "_law_of" (top 49) ["pool", "some"] F__law_of) {f : Addr} {fd : FuncData} (FD : FunD K "_law_poll" "_law_poll" (defArgs (top 51)) (defBody (top 51)) (defScope (top 51)) [] [] f fd) :
    FnB false P w K mg base (L2.CX P w) 4 f fd ["pool", "parties", "top", "seats"] (spD K mg F__law_poll) := by
  refine fn_b FD sc__law_poll fun cdv A outer s H E hr hgd gX => ?_
  have hu := roomy hr
  have hu6 := roomy6 hr
  have hu4 := roomy4 hr
  unfold c__law_poll
  exact
      (ss_cons (ss_par gX 4 5 (sa_cons (se_bin op_addG p_addG (se_int) (se_callh gX h__law_take hr (by decide) (fun z => by cases z) bp__law_take (sa_cons (se_var 0) (sa_cons (se_var 1) (sa_nil))))) (sa_cons (se_callh gX h__law_rule hr (by decide) (fun z => by cases z) bp__law_rule (sa_cons (se_var 0) (sa_nil))) (sa_nil))))
      (ss_cons (ss_set gX 6 (se_callh gX h__law_of hr (by decide) (fun z => by cases z) bp__law_of (sa_cons (se_var 0) (sa_cons (se_val (sf_lst (sa_cons (se_var 2) (sa_cons (se_var 2) (sa_cons (se_int) (sa_cons (se_int) (sa_nil))))))) (sa_nil)))))
      (ss_cons (ss_setLcBg gX 7 [("party", 8)] (si_rng1 rfl T.f_range (sa_cons (se_var 4) (sa_nil))) (blk_ok ["pool", "parties", "top", "seats", "many", "rule", "most", "votes", "party"] (defScope (top 51)) rfl rfl (by decide +kernel)) (calm_nm) (fun _ _ _ _ _ gX => sgv_nm gX.calm gX.nd 8) (fun _ _ _ _ _ gX => sts_nil) (fun _ _ _ _ _ gX => se_callh gX h__law_of hr (by decide) (fun z => by cases z) bp__law_of (sa_cons (se_var 0) (sa_cons (se_val (sf_lst (sa_cons (se_callh gX h__law_take hr (by decide) (fun z => by cases z) bp__law_take (sa_cons (se_var 0) (sa_cons (se_bin op_addG p_addG (se_var 6) (se_int)) (sa_nil)))) (sa_cons (se_callh gX h__law_take hr (by decide) (fun z => by cases z) bp__law_take (sa_cons (se_var 0) (sa_cons (se_bin op_addG p_addG (se_var 6) (se_int)) (sa_nil)))) (sa_cons (se_var 6) (sa_cons (se_int) (sa_nil))))))) (sa_nil)))))
      (ss_cons (ss_if (st_cmp (op_eqD hu4) p_eq (se_bi (cr_maxA mg gX.calm hu) p_mm T.f_max (sa_cons (se_var 7) (sa_nil))) (se_int)) (ss_one (ss_asg (se_bin op_addG p_addG (se_int) (se_callh gX h__law_take hr (by decide) (fun z => by cases z) bp__law_take (sa_cons (se_var 0) (sa_cons (se_var 6) (sa_nil))))) (sg_sub (se_var 7) (se_callh gX h__law_take hr (by decide) (fun z => by cases z) bp__law_take (sa_cons (se_var 0) (sa_cons (se_var 4) (sa_nil))))))) (ss_nil))
      (ss_one (ss_ret (se_tup (sa_cons (se_bt call_tuple_of p_tuple T.f_tuple (sa_cons (se_var 7) (sa_nil))) (sa_cons (se_bin op_addG p_addG (se_int) (se_callh gX h__law_take hr (by decide) (fun z => by cases z) bp__law_take (sa_cons (se_var 0) (sa_cons (se_var 3) (sa_nil))))) (sa_cons (se_var 5) (sa_nil)))))))))))

theorem bp_wrong_number : BindP "wrong_number" (top 21) ["value"] := fun _ _ _ _ _ _ us hl => match us, hl with | [_], _ => rfl
theorem sc_wrong_number : FnScope ["value"] ["value"] (defScope (top 21)) := ⟨rfl, rfl, rfl, by decide +kernel, rfl, by decide +kernel, by decide +kernel⟩
theorem ok_wrong_number {P : Program} {w : World} {K : PySem.W.Frag} {mg : Str → Option Value} {base : Heap} (T : Facts K mg) (h_first_wrong : Has false P w K mg base 4 "first_wrong" (top 13) ["value", "is_right"] F_first_wrong) {f : Addr} {fd : FuncData} (TF : TabF K mg base) (hmx : mg "wrong_number" ≠ none) (hga : f = He.ga K "wrong_number") (FD : FunD K "wrong_number" "wrong_number" (defArgs (top 21)) (defBody (top 21)) (defScope (top 21)) [] [] f fd) :
    FnB false P w K mg base (L2.CX P w) 5 f fd ["value"] (spD K mg F_wrong_number) := by
  refine fn_bl FD sc_wrong_number hga fun cdv A outer s H E hcode hr hgd gX => ?_
  have hu := roomy hr
  have hu6 := roomy6 hr
  have hu4 := roomy4 hr
  unfold c_wrong_number
  exact
      (ss_one (ss_ret (se_callh gX h_first_wrong hr (by decide) (fun z => by cases z) bp_first_wrong (sa_cons (se_var 0) (sa_cons (se_lam (x := "wrong_number") TF hcode (by decide +kernel) hmx rfl rfl (by decide +kernel)) (sa_nil))))))

theorem bp_votes_for_by : BindP "votes_for_by" (top 44) ["poll", "table"] := fun _ _ _ _ _ _ us hl => match us, hl with | [_, _], _ => rfl
theorem sc_votes_for_by : FnScope ["poll", "table", "many"] ["poll", "table"] (defScope (top 44)) := ⟨rfl, rfl, rfl, by decide +kernel, rfl, by decide +kernel, by decide +kernel⟩
theorem ok_votes_for_by {P : Program} {w : World} {K : PySem.W.Frag} {mg : Str → Option Value} {base : Heap} (T : Facts K mg) (h_more_by : Has false P w K mg base 4 "more_by" (top 43) ["poll", "table"] F_more_by) {f : Addr} {fd : FuncData} (FD : FunD K "votes_for_by" "votes_for_by" (defArgs (top 44)) (defBody (top 44)) (defScope (top 44)) [] [] f fd) :
    FnB false P w K mg base (L2.CX P w) 5 f fd ["poll", "table"] (spD K mg F_votes_for_by) := by
  refine fn_b FD sc_votes_for_by fun cdv A outer s H E hr hgd gX => ?_
  have hu := roomy hr
  have hu6 := roomy6 hr
  have hu4 := roomy4 hr
  unfold c_votes_for_by
  exact
      (ss_cons (ss_set gX 2 (se_bi (cr_sumA gX.calm) p_sum T.f_sum (sa_cons (se_callh gX h_more_by hr (by decide) (fun z => by cases z) bp_more_by (sa_cons (se_var 0) (sa_cons (se_var 1) (sa_nil)))) (sa_nil))))
      (ss_one (ss_ret (se_if (st_cmp op_le p_le (se_var 2) (se_gint T.c_MOST_MORE)) (se_var 2) (se_non)))))

theorem bp_are_votes : BindP "are_votes" (top 22) ["value"] := fun _ _ _ _ _ _ us hl => match us, hl with | [_], _ => rfl
theorem sc_are_votes : FnScope ["value", "number"] ["value"] (defScope (top 22)) := ⟨rfl, rfl, rfl, by decide +kernel, rfl, by decide +kernel, by decide +kernel⟩
theorem ok_are_votes {P : Program} {w : World} {K : PySem.W.Frag} {mg : Str → Option Value} {base : Heap} (T : Facts K mg) (h_is_row : Has false P w K mg base 1 "is_row" (top 12) ["value", "least", "most"] F_is_row) (h_wrong_number : Has false P w K mg base 5 "wrong_number" (top 21) ["value"] F_wrong_number) {f : Addr} {fd : FuncData} (FD : FunD K "are_votes" "are_votes" (defArgs (top 22)) (defBody (top 22)) (defScope (top 22)) [] [] f fd) :
    FnB false P w K mg base (L2.CX P w) 6 f fd ["value"] (spD K mg F_are_votes) := by
  refine fn_b FD sc_are_votes fun cdv A outer s H E hr hgd gX => ?_
  have hu := roomy hr
  have hu6 := roomy6 hr
  have hu4 := roomy4 hr
  unfold c_are_votes
  exact
      (ss_cons (ss_if (st_w (sw_or (st_not (st_val (se_callh gX h_is_row hr (by decide) (fun z => by cases z) bp_is_row (sa_cons (se_var 0) (sa_cons (se_int) (sa_cons (se_gint T.c_MOST_PARTIES) (sa_nil))))))) (sw_or1 (st_cmp op_notN p_notN (se_callh gX h_wrong_number hr (by decide) (fun z => by cases z) bp_wrong_number (sa_cons (se_var 0) (sa_nil))) (se_non))))) (ss_one (ss_ret (se_bl))) (ss_nil))
      (ss_one (ss_ret (se_bi (cr_anyA gX.calm) p_any T.f_any (sa_cons (se_val (sf_lcg gX [("number", 1)] (si_seq (se_var 0)) (blk_ok ["value", "number"] (defScope (top 22)) rfl rfl (by decide +kernel)) (calm_nm) (fun _ _ _ _ _ gX => sgv_nm gX.calm gX.nd 1) (fun _ _ _ _ _ gX => sts_nil) (fun _ _ _ _ _ gX => se_cmp op_gt p_gt (se_var 1) (se_int)))) (sa_nil))))))

theorem bp_votes_for : BindP "votes_for" (top 45) ["poll", "table"] := fun _ _ _ _ _ _ us hl => match us, hl with | [_, _], _ => rfl
theorem sc_votes_for : FnScope ["poll", "table"] ["poll", "table"] (defScope (top 45)) := ⟨rfl, rfl, rfl, by decide +kernel, rfl, by decide +kernel, by decide +kernel⟩
theorem ok_votes_for {P : Program} {w : World} {K : PySem.W.Frag} {mg : Str → Option Value} {base : Heap} (T : Facts K mg) (h_check_asked : Has false P w K mg base 2 "check_asked" (top 37) ["poll"] F_check_asked) (h_check_table : Has false P w K mg base 4 "check_table" (top 33) ["poll", "value"] F_check_table) (h_votes_for_by : Has false P w K mg base 5 "votes_for_by" (top 44) ["poll", "table"] F_votes_for_by) {f : Addr} {fd : FuncData} (FD : FunD K "votes_for" "votes_for" (defArgs (top 45)) (defBody (top 45)) (defScope (top 45)) [] [] f fd) :
    FnB false P w K mg base (L2.CX P w) 6 f fd ["poll", "table"] (spD K mg F_votes_for) := by
  refine fn_b FD sc_votes_for fun cdv A outer s H E hr hgd gX => ?_
  have hu := roomy hr
  have hu6 := roomy6 hr
  have hu4 := roomy4 hr
  unfold c_votes_for
  exact
      (ss_cons (ss_expr (se_callh gX h_check_asked hr (by decide) (fun z => by cases z) bp_check_asked (sa_cons (se_var 0) (sa_nil))))
      (ss_cons (ss_expr (se_callh gX h_check_table hr (by decide) (fun z => by cases z) bp_check_table (sa_cons (se_var 0) (sa_cons (se_var 1) (sa_nil)))))
      (ss_one (ss_ret (se_callh gX h_votes_for_by hr (by decide) (fun z => by cases z) bp_votes_for_by (sa_cons (se_var 0) (sa_cons (se_var 1) (sa_nil))))))))

theorem bp_check_votes : BindP "check_votes" (top 26) ["votes"] := fun _ _ _ _ _ _ us hl => match us, hl with | [_], _ => rfl
theorem sc_check_votes : FnScope ["votes", "wrong"] ["votes"] (defScope (top 26)) := ⟨rfl, rfl, rfl, by decide +kernel, rfl, by decide +kernel, by decide +kernel⟩
theorem ok_check_votes {P : Program} {w : World} {K : PySem.W.Frag} {mg : Str → Option Value} {base : Heap} (T : Facts K mg) (h_is_row : Has false P w K mg base 1 "is_row" (top 12) ["value", "least", "most"] F_is_row) (h_wrong_number : Has false P w K mg base 5 "wrong_number" (top 21) ["value"] F_wrong_number) (h_are_votes : Has false P w K mg base 6 "are_votes" (top 22) ["value"] F_are_votes) {f : Addr} {fd : FuncData} (FD : FunD K "check_votes" "check_votes" (defArgs (top 26)) (defBody (top 26)) (defScope (top 26)) [] [] f fd) :
    FnB false P w K mg base (L2.CX P w) 7 f fd ["votes"] (spD K mg F_check_votes) := by
  refine fn_b FD sc_check_votes fun cdv A outer s H E hr hgd gX => ?_
  have hu := roomy hr
  have hu6 := roomy6 hr
  have hu4 := roomy4 hr
  unfold c_check_votes
  exact
      (ss_cons (ss_if (st_not (st_val (se_callh gX h_is_row hr (by decide) (fun z => by cases z) bp_is_row (sa_cons (se_var 0) (sa_cons (se_int) (sa_cons (se_gint T.c_MOST_PARTIES) (sa_nil))))))) (ss_one (ss_bad)) (ss_nil))
      (ss_cons (ss_set gX 1 (se_callh gX h_wrong_number hr (by decide) (fun z => by cases z) bp_wrong_number (sa_cons (se_var 0) (sa_nil))))
      (ss_one (ss_if (st_w (sw_or (st_cmp op_notN p_notN (se_var 1) (se_non)) (sw_or1 (st_not (st_val (se_callh gX h_are_votes hr (by decide) (fun z => by cases z) bp_are_votes (sa_cons (se_var 0) (sa_nil)))))))) (ss_one (ss_bad)) (ss_nil)))))

theorem bi_Poll : BindI (defArgs (topM 29 0)) "Poll" ["self", "votes", "seats", "rule"] := fun _ _ _ _ _ _ _ _ us hl => match us, hl with | [_, _, _, _], _ => rfl
theorem sc_Poll___init__ : FnScope ["self", "votes", "seats", "rule"] ["self", "votes", "seats", "rule"] (defScope (topM 29 0)) := ⟨rfl, rfl, rfl, by decide +kernel, rfl, by decide +kernel, by decide +kernel⟩
theorem ok_Poll___init__ {P : Program} {w : World} {K : PySem.W.Frag} {mg : Str → Option Value} {base : Heap} (T : Facts K mg) (h_are_enough : Has false P w K mg base 1 "are_enough" (top 25) ["votes", "seats", "rule"] F_are_enough) (h_check_rule : Has false P w K mg base 4 "check_rule" (top 28) ["rule"] F_check_rule) (h_check_seats : Has false P w K mg base 4 "check_seats" (top 27) ["seats"] F_check_seats) (h_check_votes : Has false P w K mg base 7 "check_votes" (top 26) ["votes"] F_check_votes) {f : Addr} {fd : FuncData} (FD : FunD K "__init__" ("Poll" ++ ".__init__") (defArgs (topM 29 0)) (defBody (topM 29 0)) (defScope (topM 29 0)) [] [] f fd) :
    FnOk P w K mg base (L2.CX P w) 8 f fd ["self", "votes", "seats", "rule"] (spI K mg "Poll" ["votes", "seats", "rule"] I_Poll) := by
  refine init_b (fs := ["votes", "seats", "rule"]) FD sc_Poll___init__ T.k_Poll (fun f h => h) fun cdv A outer s H E hr gX => ?_
  have hu := roomy hr
  have hu6 := roomy6 hr
  have hu4 := roomy4 hr
  unfold c_Poll___init__
  exact
      (si_pre (ss_expr (se_callh gX h_check_votes hr (by decide) (fun z => by cases z) bp_check_votes (sa_cons (se_var 1) (sa_nil))))
      (si_pre (ss_expr (se_callh gX h_check_seats hr (by decide) (fun z => by cases z) bp_check_seats (sa_cons (se_var 2) (sa_nil))))
      (si_pre (ss_expr (se_callh gX h_check_rule hr (by decide) (fun z => by cases z) bp_check_rule (sa_cons (se_var 3) (sa_nil))))
      (si_pre (ss_if (st_not (st_val (se_callh gX h_are_enough hr (by decide) (fun z => by cases z) bp_are_enough (sa_cons (se_var 1) (sa_cons (se_var 2) (sa_cons (se_var 3) (sa_nil))))))) (ss_one (ss_bad)) (ss_nil))
      (si_fld (se_var 1)
      (si_fld (se_var 2)
      (si_fld (se_var 3)
      (si_nil))))))))

theorem bp__law_right : BindP "_law_right" (top 54) ["pool", "most"] := fun _ _ _ _ _ _ us hl => match us, hl with | [_, _], _ => rfl
theorem sc__law_right : FnScope ["pool", "most", "votes", "seats", "rule", "poll", "tables", "due", "many", "way", "later", "table", "turn", "told", "one", "more"] ["pool", "most"] (defScope (top 54)) := ⟨rfl, rfl, rfl, by decide +kernel, rfl, by decide +kernel, by decide +kernel⟩
theorem bk_votes_for_0_1_0 : BindK "votes_for" (top 45) ["poll", "table"] ["table", "poll"] 0 [1, 0] := fun _ _ _ _ _ _ us ws h1 h2 => match us, ws, h1, h2 with | [], [_, _], _, _ => rfl
theorem ok__law_right {P : Program} {w : World} {K : PySem.W.Frag} {mg : Str → Option Value} {base : Heap} (T : Facts K mg) (h__law_poll : Has false P w K mg base 4 "_law_poll" (top 51) ["pool", "parties", "top", "seats"] F__law_poll) (h__law_ways : Has false P w K mg base 1 "_law_ways" (top 53) ["many", "parties"] F__law_ways) (h__law_results : Has false P w K mg base 1 "_law_results" (top 52) ["votes", "seats", "rule"] F__law_results) (h__law_of : Has false P w K mg base 2 "_law_of" (top 49) ["pool", "some"] F__law_of) (h_votes_for : Has false P w K mg base 6 "votes_for" (top 45) ["poll", "table"] F_votes_for) (H_Poll : HasI P w K mg base 8 "Poll" ["votes", "seats", "rule"] (defArgs (topM 29 0)) ["self", "votes", "seats", "rule"] I_Poll) {f : Addr} {fd : FuncData} (FD : FunD K "_law_right" "_law_right" (defArgs (top 54)) (defBody (top 54)) (defScope (top 54)) [] [] f fd) :
    FnB true P w K mg base (L2.CX P w) 10 f fd ["pool", "most"] (spD K mg F__law_right) := by
  refine fn_b FD sc__law_right fun cdv A outer s H E hr hgd gX => ?_
  have hu := roomy hr
  have hu6 := roomy6 hr
  have hu4 := roomy4 hr
  unfold c__law_right
  exact
      (ss_cons (ss_asg (se_callh gX h__law_poll hr (by decide) (fun z => by cases z) bp__law_poll (sa_cons (se_var 0) (sa_cons (se_ix (se_var 1) (se_int)) (sa_cons (se_ix (se_var 1) (se_int)) (sa_cons (se_ix (se_var 1) (se_int)) (sa_nil)))))) (sg_tpn gX (sgs_cons (sg_nm gX 2) (sgs_cons (sg_nm gX 3) (sgs_cons (sg_nm gX 4) (sgs_nil)))) 3))
      (ss_cons (ss_set gX 5 (se_make gX H_Poll hr (by decide) bi_Poll (sa_cons (se_var 2) (sa_cons (se_var 3) (sa_cons (se_var 4) (sa_nil))))))
      (ss_cons (ss_asg (se_tup (sa_cons (se_callh gX h__law_ways hr (by decide) (fun z => by cases z) bp__law_ways (sa_cons (se_var 3) (sa_cons (se_bi DL.call_lenD p_len T.f_len (sa_cons (se_var 2) (sa_nil))) (sa_nil)))) (sa_cons (se_dnew) (sa_nil)))) (sg_tpn gX (sgs_cons (sg_nm gX 6) (sgs_cons (sg_nm gX 7) (sgs_nil))) 2))
      (ss_cons (ss_for gX (si_rng1 rfl T.f_range (sa_cons (se_int) (sa_nil))) (sg_nm gX 8) (ss_one (ss_for gX (si_seq (se_callh gX h__law_ways hr (by decide) (fun z => by cases z) bp__law_ways (sa_cons (se_var 8) (sa_cons (se_bi DL.call_lenD p_len T.f_len (sa_cons (se_var 2) (sa_nil))) (sa_nil))))) (sg_nm gX 9) (ss_cons (ss_set gX 10 (se_bt call_tuple_of p_tuple T.f_tuple (sa_cons (se_val (sf_lcg gX [("one", 14), ("more", 15)] (si_zip rfl T.f_zip (sa_cons (se_var 2) (sa_cons (se_var 9) (sa_nil)))) (blk_ok ["pool", "most", "votes", "seats", "rule", "poll", "tables", "due", "many", "way", "later", "table", "turn", "told", "one", "more"] (defScope (top 54)) rfl rfl (by decide +kernel)) (calm_tpn (calms_cons (calm_nm) (calms_cons (calm_nm) (calms_nil)))) (fun _ _ _ _ _ gX => sgv_tpn gX.calm (sgsv_cons (calm_nm) (sgv_nm gX.calm gX.nd 14) (sgsv_cons (calm_nm) (sgv_nm gX.calm gX.nd 15) (sgsv_nil))) 2) (fun _ _ _ _ _ gX => sts_nil) (fun _ _ _ _ _ gX => se_bin op_addG p_addG (se_var 14) (se_var 15)))) (sa_nil))))
      (ss_one (ss_for gX (si_seq (se_callh gX h__law_results hr (by decide) (fun z => by cases z) bp__law_results (sa_cons (se_var 10) (sa_cons (se_var 3) (sa_cons (se_var 4) (sa_nil)))))) (sg_nm gX 11) (ss_one (ss_dput hu (se_var 7) (se_var 11) (se_dget2 hu (se_var 7) (se_var 11) (se_var 8) ⟨rfl, rfl, rfl, rfl⟩)))))))))
      (ss_cons (ss_for gX (si_rng1 rfl T.f_range (sa_cons (se_int) (sa_nil))) (sg_nm gX 12) (ss_cons (ss_set gX 11 (se_callh gX h__law_of hr (by decide) (fun z => by cases z) bp__law_of (sa_cons (se_var 0) (sa_cons (se_var 6) (sa_nil)))))
      (ss_cons (ss_set gX 13 (se_callh gX h_votes_for hr (by decide) (fun z => by cases z) bp_votes_for (sa_cons (se_var 5) (sa_cons (se_var 11) (sa_nil)))))
      (ss_cons (ss_if (st_w (sw_or (st_cmp (op_neD hu4) p_ne (se_var 13) (se_callkh0 gX ["table", "poll"] [1, 0] h_votes_for hr (by decide) (fun z => by cases z) bk_votes_for_0_1_0 (sk_cons (se_var 11) (sk_cons (se_var 5) (sk_nil))))) (sw_or1 (st_w (sw_and (st_cmp op_notN p_notN (se_var 13) (se_non)) (sw_and1 (st_w (sw_or (st_val (se_bi call_isi p_isi T.f_isinstance (sa_cons (se_var 13) (sa_cons (se_ty T.f_bool (by decide +kernel)) (sa_nil))))) (sw_or1 (st_cmp op_lt p_lt (se_var 13) (se_int))))))))))) (ss_one (ss_ret (se_bl))) (ss_nil))
      (ss_one (ss_if (st_w (sw_or (st_w (sw_and (st_din hu (se_var 11) (se_var 7)) (sw_and1 (st_cmp (op_neD hu4) p_ne (se_bi (call_reprD (hgd rfl) hu6) p_repr T.f_repr (sa_cons (se_var 13) (sa_nil))) (se_bi (call_reprD (hgd rfl) hu6) p_repr T.f_repr (sa_cons (se_dget hu (se_var 7) (se_var 11) (fun _ _ => rfl)) (sa_nil))))))) (sw_or1 (st_w (sw_and (st_dnin hu (se_var 11) (se_var 7)) (sw_and (st_cmp op_notN p_notN (se_var 13) (se_non)) (sw_and1 (st_cmp op_lt p_lt (se_var 13) (se_int))))))))) (ss_one (ss_ret (se_bl))) (ss_nil)))))))
      (ss_one (ss_ret (se_bi (cr_allA gX.calm) p_all T.f_all (sa_cons (se_val (sf_lcg gX [("table", 11)] (si_seq (se_var 6)) (blk_ok ["pool", "most", "votes", "seats", "rule", "poll", "tables", "due", "many", "way", "later", "table", "turn", "told", "one", "more"] (defScope (top 54)) rfl rfl (by decide +kernel)) (calm_nm) (fun _ _ _ _ _ gX => sgv_nm gX.calm gX.nd 11) (fun _ _ _ _ _ gX => sts_one (st_cmp (op_eqD hu4) p_eq (se_dget2 hu (se_var 7) (se_var 11) (se_int) ⟨rfl, rfl, rfl, rfl⟩) (se_int))) (fun _ _ _ _ _ gX => se_cmp (op_eqD hu4) p_eq (se_callh gX h_votes_for hr (by decide) (fun z => by cases z) bp_votes_for (sa_cons (se_var 5) (sa_cons (se_var 11) (sa_nil)))) (se_int)))) (sa_nil))))))))))

theorem bp_law : BindP "law" (top 55) ["script"] := fun _ _ _ _ _ _ us hl => match us, hl with | [_], _ => rfl
theorem sc_law : FnScope ["script", "k", "pool", "most"] ["script"] (defScope (top 55)) := ⟨rfl, rfl, rfl, by decide +kernel, rfl, by decide +kernel, by decide +kernel⟩
theorem ok_law {P : Program} {w : World} {K : PySem.W.Frag} {mg : Str → Option Value} {base : Heap} (T : Facts K mg) (h__law_pool : Has false P w K mg base 1 "_law_pool" (top 47) ["script", "k"] F__law_pool) (h__law_right : Has true P w K mg base 10 "_law_right" (top 54) ["pool", "most"] F__law_right) {f : Addr} {fd : FuncData} (FD : FunD K "law" "law" (defArgs (top 55)) (defBody (top 55)) (defScope (top 55)) [] [] f fd) :
    FnB true P w K mg base (L2.CX P w) 11 f fd ["script"] (spD K mg F_law) := by
  refine fn_b FD sc_law fun cdv A outer s H E hr hgd gX => ?_
  have hu := roomy hr
  have hu6 := roomy6 hr
  have hu4 := roomy4 hr
  unfold c_law
  exact
      (ss_cons (ss_for gX (si_rng1 rfl T.f_range (sa_cons (se_bi (cr_maxA mg gX.calm hu) p_mm T.f_max (sa_cons (se_int) (sa_cons (se_bi (cr_minA mg gX.calm hu) p_mm T.f_min (sa_cons (se_bi DL.call_lenD p_len T.f_len (sa_cons (se_var 0) (sa_nil))) (sa_cons (se_int) (sa_nil)))) (sa_nil)))) (sa_nil))) (sg_nm gX 1) (ss_cons (ss_set gX 2 (se_callh gX h__law_pool hr (by decide) (fun z => by cases z) bp__law_pool (sa_cons (se_var 0) (sa_cons (se_var 1) (sa_nil)))))
      (ss_one (ss_for gX (si_seq (se_val (sf_lst (sa_cons (se_tup (sa_cons (se_int) (sa_cons (se_int) (sa_cons (se_int) (sa_nil))))) (sa_cons (se_tup (sa_cons (se_int) (sa_cons (se_int) (sa_cons (se_int) (sa_nil))))) (sa_cons (se_tup (sa_cons (se_int) (sa_cons (se_int) (sa_cons (se_int) (sa_nil))))) (sa_cons (se_tup (sa_cons (se_int) (sa_cons (se_int) (sa_cons (se_int) (sa_nil))))) (sa_nil)))))))) (sg_nm gX 3) (ss_one (ss_if (st_not (st_val (se_callh gX h__law_right hr (by decide) hgd bp__law_right (sa_cons (se_var 2) (sa_cons (se_var 3) (sa_nil)))))) (ss_one (ss_ret (se_bl))) (ss_nil)))))))
      (ss_one (ss_ret (se_bl))))

end Q
end

section
set_option Elab.async false
set_option linter.all false
set_option maxRecDepth 100000
set_option maxHeartbeats 0
set_option autoImplicit false
/-! the head: what stands behind the top (printed by mkend.py) -/
namespace Q
open PySem PySem.Spec PyProof.Rows L2 DL
theorem all_facts {w : World} {K : PySem.W.Frag} {h base : Heap} {mg : Str → Option Value} (X : K.In base) (G : base.Ns mainGlobals mg) (c : He.SaysX fa fn [] tf ex w h K) : Facts K mg where
  f_int := He.free_ok X G (c.t.d.fact 38 (f := .free "int") rfl)
  f_isinstance := He.free_ok X G (c.t.d.fact 39 (f := .free "isinstance") rfl)
  f_bool := He.free_ok X G (c.t.d.fact 40 (f := .free "bool") rfl)
  f_tuple := He.free_ok X G (c.t.d.fact 41 (f := .free "tuple") rfl)
  f_len := He.free_ok X G (c.t.d.fact 42 (f := .free "len") rfl)
  i_gcd := PySem.W.mg_of X G (eqi_ok (He.ba c.more).1)
  k_Poll := clsK_of (He.glo_ok X G (c.t.d.fact 44 (f := .glo "Poll") rfl)) (He.cls_ok (c.t.d.fact 43 (f := .cls "Poll") rfl)) (by
      intro f hf
      simp only [List.mem_cons, List.not_mem_nil, or_false] at hf
      rcases hf with rfl | rfl | rfl
      · exact He.noat_ok (c.t.d.fact 45 (f := .noat "Poll" "votes") rfl)
      · exact He.noat_ok (c.t.d.fact 46 (f := .noat "Poll" "seats") rfl)
      · exact He.noat_ok (c.t.d.fact 47 (f := .noat "Poll" "rule") rfl)) (He.ba (He.ba c.more).2).1
  f_sum := He.free_ok X G (c.t.d.fact 48 (f := .free "sum") rfl)
  f_abs := He.free_ok X G (c.t.d.fact 49 (f := .free "abs") rfl)
  f_divmod := He.free_ok X G (c.t.d.fact 50 (f := .free "divmod") rfl)
  f_range := He.free_ok X G (c.t.d.fact 51 (f := .free "range") rfl)
  f_max := He.free_ok X G (c.t.d.fact 52 (f := .free "max") rfl)
  f_sorted := He.free_ok X G (c.t.d.fact 53 (f := .free "sorted") rfl)
  f_zip := He.free_ok X G (c.t.d.fact 54 (f := .free "zip") rfl)
  c_MOST_VOTES := He.int_ok X G (c.t.d.fact 55 (f := .int "MOST_VOTES" 999) rfl)
  c_MOST_SEATS := He.int_ok X G (c.t.d.fact 56 (f := .int "MOST_SEATS" 15) rfl)
  c_MOST_FIRST := He.int_ok X G (c.t.d.fact 57 (f := .int "MOST_FIRST" 9) rfl)
  f_all := He.free_ok X G (c.t.d.fact 58 (f := .free "all") rfl)
  f_enumerate := He.free_ok X G (c.t.d.fact 59 (f := .free "enumerate") rfl)
  c_MOST_MORE := He.int_ok X G (c.t.d.fact 60 (f := .int "MOST_MORE" 99999) rfl)
  c_MOST_PARTIES := He.int_ok X G (c.t.d.fact 61 (f := .int "MOST_PARTIES" 6) rfl)
  f_any := He.free_ok X G (c.t.d.fact 62 (f := .free "any") rfl)
  f_repr := He.free_ok X G (c.t.d.fact 63 (f := .free "repr") rfl)
  f_min := He.free_ok X G (c.t.d.fact 64 (f := .free "min") rfl)
theorem in_tf {w : World} {K : PySem.W.Frag} {h base : Heap} {mg : Str → Option Value} (X : K.In base) (G : base.Ns mainGlobals mg) (c : He.SaysX fa fn [] tf ex w h K) : ∀ p ∈ TBL, mg p.1 ≠ none → He.cT K (p.1, none) ∈ tf.map (He.cT K) := by
  intro p hp hm
  simp only [TBL, List.mem_cons, List.not_mem_nil, or_false] at hp
  rcases hp with rfl | rfl | rfl | rfl | rfl
  · exact List.mem_map.mpr ⟨("wrong_number", none), by decide +kernel, rfl⟩
  · exact absurd (He.free_ok X G (c.t.d.fact 65 (f := .free "wrong_line") rfl)) hm
  · exact absurd (He.free_ok X G (c.t.d.fact 66 (f := .free "wrong_sum") rfl)) hm
  · exact absurd (He.free_ok X G (c.t.d.fact 67 (f := .free "wrong_list") rfl)) hm
  · exact absurd (He.free_ok X G (c.t.d.fact 68 (f := .free "wrong_name") rfl)) hm
theorem tab_f {w : World} {K : PySem.W.Frag} {h base : Heap} {mg : Str → Option Value} (X : K.In base) (G : base.Ns mainGlobals mg) (c : He.SaysX fa fn [] tf ex w h K) (TB : ∀ p ∈ tf.map (He.cT K), LamX.TabB base mg p.1 p.2) : TabF K mg base := by
  refine ⟨fun p hp hm => TB _ (in_tf X G c p hp hm), fun p hp p' hp' hm hm' e => ?_⟩
  simp only [TBL, List.mem_cons, List.not_mem_nil, or_false] at hp hp'
  rcases hp with rfl | rfl | rfl | rfl | rfl <;> rcases hp' with rfl | rfl | rfl | rfl | rfl
  · rfl
  · exact absurd (He.free_ok X G (c.t.d.fact 65 (f := .free "wrong_line") rfl)) hm'
  · exact absurd (He.free_ok X G (c.t.d.fact 66 (f := .free "wrong_sum") rfl)) hm'
  · exact absurd (He.free_ok X G (c.t.d.fact 67 (f := .free "wrong_list") rfl)) hm'
  · exact absurd (He.free_ok X G (c.t.d.fact 68 (f := .free "wrong_name") rfl)) hm'
  · exact absurd (He.free_ok X G (c.t.d.fact 65 (f := .free "wrong_line") rfl)) hm
  · rfl
  · exact absurd (He.free_ok X G (c.t.d.fact 65 (f := .free "wrong_line") rfl)) hm
  · exact absurd (He.free_ok X G (c.t.d.fact 65 (f := .free "wrong_line") rfl)) hm
  · exact absurd (He.free_ok X G (c.t.d.fact 65 (f := .free "wrong_line") rfl)) hm
  · exact absurd (He.free_ok X G (c.t.d.fact 66 (f := .free "wrong_sum") rfl)) hm
  · exact absurd (He.free_ok X G (c.t.d.fact 66 (f := .free "wrong_sum") rfl)) hm
  · rfl
  · exact absurd (He.free_ok X G (c.t.d.fact 66 (f := .free "wrong_sum") rfl)) hm
  · exact absurd (He.free_ok X G (c.t.d.fact 66 (f := .free "wrong_sum") rfl)) hm
  · exact absurd (He.free_ok X G (c.t.d.fact 67 (f := .free "wrong_list") rfl)) hm
  · exact absurd (He.free_ok X G (c.t.d.fact 67 (f := .free "wrong_list") rfl)) hm
  · exact absurd (He.free_ok X G (c.t.d.fact 67 (f := .free "wrong_list") rfl)) hm
  · rfl
  · exact absurd (He.free_ok X G (c.t.d.fact 67 (f := .free "wrong_list") rfl)) hm
  · exact absurd (He.free_ok X G (c.t.d.fact 68 (f := .free "wrong_name") rfl)) hm
  · exact absurd (He.free_ok X G (c.t.d.fact 68 (f := .free "wrong_name") rfl)) hm
  · exact absurd (He.free_ok X G (c.t.d.fact 68 (f := .free "wrong_name") rfl)) hm
  · exact absurd (He.free_ok X G (c.t.d.fact 68 (f := .free "wrong_name") rfl)) hm
  · rfl
theorem law_ok {P : Program} {w : World} {K : PySem.W.Frag} {h base : Heap} {mg : Str → Option Value} (X : K.In base) (G : base.Ns mainGlobals mg) (c : He.SaysX fa fn [] tf ex w h K) (TB : ∀ p ∈ tf.map (He.cT K), LamX.TabB base mg p.1 p.2) :
    Has true P w K mg base 11 "law" (top 55) ["script"] F_law := by
  have T := all_facts X G c
  have TF := tab_f X G c TB
  obtain ⟨fd_is_whole, FD_is_whole⟩ := c.t.d.def_ 0 (d := dd "is_whole" 9) rfl
  have h_is_whole : Has false P w K mg base 1 "is_whole" (top 9) ["value"] F_is_whole := ⟨_, fd_is_whole, He.glo_ok X G (c.t.d.fact 0 (f := .glo "is_whole") rfl), FD_is_whole, ok_is_whole T   FD_is_whole⟩
  obtain ⟨fd_is_tuple_of, FD_is_tuple_of⟩ := c.t.d.def_ 1 (d := dd "is_tuple_of" 11) rfl
  have h_is_tuple_of : Has false P w K mg base 1 "is_tuple_of" (top 11) ["value", "many"] F_is_tuple_of := ⟨_, fd_is_tuple_of, He.glo_ok X G (c.t.d.fact 1 (f := .glo "is_tuple_of") rfl), FD_is_tuple_of, ok_is_tuple_of T   FD_is_tuple_of⟩
  obtain ⟨fd_is_row, FD_is_row⟩ := c.t.d.def_ 2 (d := dd "is_row" 12) rfl
  have h_is_row : Has false P w K mg base 1 "is_row" (top 12) ["value", "least", "most"] F_is_row := ⟨_, fd_is_row, He.glo_ok X G (c.t.d.fact 2 (f := .glo "is_row") rfl), FD_is_row, ok_is_row T   FD_is_row⟩
  obtain ⟨fd_lowest, FD_lowest⟩ := c.t.d.def_ 3 (d := dd "lowest" 14) rfl
  have h_lowest : Has false P w K mg base 1 "lowest" (top 14) ["over", "under"] F_lowest := ⟨_, fd_lowest, He.glo_ok X G (c.t.d.fact 3 (f := .glo "lowest") rfl), FD_lowest, ok_lowest T   FD_lowest⟩
  obtain ⟨fd_is_less, FD_is_less⟩ := c.t.d.def_ 4 (d := dd "is_less" 15) rfl
  have h_is_less : Has false P w K mg base 1 "is_less" (top 15) ["one", "other"] F_is_less := ⟨_, fd_is_less, He.glo_ok X G (c.t.d.fact 4 (f := .glo "is_less") rfl), FD_is_less, ok_is_less T   FD_is_less⟩
  obtain ⟨fd_are_enough, FD_are_enough⟩ := c.t.d.def_ 5 (d := dd "are_enough" 25) rfl
  have h_are_enough : Has false P w K mg base 1 "are_enough" (top 25) ["votes", "seats", "rule"] F_are_enough := ⟨_, fd_are_enough, He.glo_ok X G (c.t.d.fact 5 (f := .glo "are_enough") rfl), FD_are_enough, ok_are_enough T   FD_are_enough⟩
  obtain ⟨fd_parts_of, FD_parts_of⟩ := c.t.d.def_ 6 (d := dd "parts_of" 30) rfl
  have h_parts_of : Has false P w K mg base 1 "parts_of" (top 30) ["poll"] F_parts_of := ⟨_, fd_parts_of, He.glo_ok X G (c.t.d.fact 6 (f := .glo "parts_of") rfl), FD_parts_of, ok_parts_of T   FD_parts_of⟩
  obtain ⟨fd_check_poll, FD_check_poll⟩ := c.t.d.def_ 7 (d := dd "check_poll" 31) rfl
  have h_check_poll : Has false P w K mg base 1 "check_poll" (top 31) ["value"] F_check_poll := ⟨_, fd_check_poll, He.glo_ok X G (c.t.d.fact 7 (f := .glo "check_poll") rfl), FD_check_poll, ok_check_poll T   FD_check_poll⟩
  obtain ⟨fd_divisor, FD_divisor⟩ := c.t.d.def_ 8 (d := dd "divisor" 34) rfl
  have h_divisor : Has false P w K mg base 1 "divisor" (top 34) ["rule", "seat"] F_divisor := ⟨_, fd_divisor, He.glo_ok X G (c.t.d.fact 8 (f := .glo "divisor") rfl), FD_divisor, ok_divisor T   FD_divisor⟩
  obtain ⟨fd_does_ask, FD_does_ask⟩ := c.t.d.def_ 9 (d := dd "does_ask" 36) rfl
  have h_does_ask : Has false P w K mg base 1 "does_ask" (top 36) ["poll"] F_does_ask := ⟨_, fd_does_ask, He.glo_ok X G (c.t.d.fact 9 (f := .glo "does_ask") rfl), FD_does_ask, ok_does_ask T   FD_does_ask⟩
  obtain ⟨fd__law_pool, FD__law_pool⟩ := c.t.d.def_ 10 (d := dd "_law_pool" 47) rfl
  have h__law_pool : Has false P w K mg base 1 "_law_pool" (top 47) ["script", "k"] F__law_pool := ⟨_, fd__law_pool, He.glo_ok X G (c.t.d.fact 10 (f := .glo "_law_pool") rfl), FD__law_pool, ok__law_pool T   FD__law_pool⟩
  obtain ⟨fd__law_take, FD__law_take⟩ := c.t.d.def_ 11 (d := dd "_law_take" 48) rfl
  have h__law_take : Has false P w K mg base 1 "_law_take" (top 48) ["pool", "many"] F__law_take := ⟨_, fd__law_take, He.glo_ok X G (c.t.d.fact 11 (f := .glo "_law_take") rfl), FD__law_take, ok__law_take T   FD__law_take⟩
  obtain ⟨fd__law_results, FD__law_results⟩ := c.t.d.def_ 12 (d := dd "_law_results" 52) rfl
  have h__law_results : Has false P w K mg base 1 "_law_results" (top 52) ["votes", "seats", "rule"] F__law_results := ⟨_, fd__law_results, He.glo_ok X G (c.t.d.fact 12 (f := .glo "_law_results") rfl), FD__law_results, ok__law_results T   FD__law_results⟩
  obtain ⟨fd__law_ways, FD__law_ways⟩ := c.t.d.def_ 13 (d := dd "_law_ways" 53) rfl
  have h__law_ways : Has false P w K mg base 1 "_law_ways" (top 53) ["many", "parties"] F__law_ways := ⟨_, fd__law_ways, He.glo_ok X G (c.t.d.fact 13 (f := .glo "_law_ways") rfl), FD__law_ways, ok__law_ways T   FD__law_ways⟩
  obtain ⟨fd_is_between, FD_is_between⟩ := c.t.d.def_ 14 (d := dd "is_between" 10) rfl
  have h_is_between : Has false P w K mg base 2 "is_between" (top 10) ["value", "least", "most"] F_is_between := ⟨_, fd_is_between, He.glo_ok X G (c.t.d.fact 14 (f := .glo "is_between") rfl), FD_is_between, ok_is_between T h_is_whole  FD_is_between⟩
  obtain ⟨fd_check_asked, FD_check_asked⟩ := c.t.d.def_ 15 (d := dd "check_asked" 37) rfl
  have h_check_asked : Has false P w K mg base 2 "check_asked" (top 37) ["poll"] F_check_asked := ⟨_, fd_check_asked, He.glo_ok X G (c.t.d.fact 15 (f := .glo "check_asked") rfl), FD_check_asked, ok_check_asked T h_check_poll h_does_ask  FD_check_asked⟩
  obtain ⟨fd_votes_at, FD_votes_at⟩ := c.t.d.def_ 16 (d := dd "votes_at" 40) rfl
  have h_votes_at : Has false P w K mg base 2 "votes_at" (top 40) ["poll", "table", "price"] F_votes_at := ⟨_, fd_votes_at, He.glo_ok X G (c.t.d.fact 16 (f := .glo "votes_at") rfl), FD_votes_at, ok_votes_at T h_divisor  FD_votes_at⟩
  obtain ⟨fd_least_price, FD_least_price⟩ := c.t.d.def_ 17 (d := dd "least_price" 41) rfl
  have h_least_price : Has false P w K mg base 2 "least_price" (top 41) ["poll", "table", "votes"] F_least_price := ⟨_, fd_least_price, He.glo_ok X G (c.t.d.fact 17 (f := .glo "least_price") rfl), FD_least_price, ok_least_price T h_lowest h_divisor h_is_less  FD_least_price⟩
  obtain ⟨fd__law_of, FD__law_of⟩ := c.t.d.def_ 18 (d := dd "_law_of" 49) rfl
  have h__law_of : Has false P w K mg base 2 "_law_of" (top 49) ["pool", "some"] F__law_of := ⟨_, fd__law_of, He.glo_ok X G (c.t.d.fact 18 (f := .glo "_law_of") rfl), FD__law_of, ok__law_of T h__law_take  FD__law_of⟩
  have l_wrong_number := ok_lam_wrong_number (P := P) (w := w) (base := base) T h_is_between 
  obtain ⟨fd_is_seats, FD_is_seats⟩ := c.t.d.def_ 19 (d := dd "is_seats" 23) rfl
  have h_is_seats : Has false P w K mg base 3 "is_seats" (top 23) ["value"] F_is_seats := ⟨_, fd_is_seats, He.glo_ok X G (c.t.d.fact 19 (f := .glo "is_seats") rfl), FD_is_seats, ok_is_seats T h_is_between  FD_is_seats⟩
  obtain ⟨fd_is_rule, FD_is_rule⟩ := c.t.d.def_ 20 (d := dd "is_rule" 24) rfl
  have h_is_rule : Has false P w K mg base 3 "is_rule" (top 24) ["value"] F_is_rule := ⟨_, fd_is_rule, He.glo_ok X G (c.t.d.fact 20 (f := .glo "is_rule") rfl), FD_is_rule, ok_is_rule T h_is_tuple_of h_is_between  FD_is_rule⟩
  obtain ⟨fd_is_table, FD_is_table⟩ := c.t.d.def_ 21 (d := dd "is_table" 32) rfl
  have h_is_table : Has false P w K mg base 3 "is_table" (top 32) ["poll", "value"] F_is_table := ⟨_, fd_is_table, He.glo_ok X G (c.t.d.fact 21 (f := .glo "is_table") rfl), FD_is_table, ok_is_table T h_is_tuple_of h_is_between  FD_is_table⟩
  obtain ⟨fd_needed_by, FD_needed_by⟩ := c.t.d.def_ 22 (d := dd "needed_by" 42) rfl
  have h_needed_by : Has false P w K mg base 3 "needed_by" (top 42) ["poll", "table"] F_needed_by := ⟨_, fd_needed_by, He.glo_ok X G (c.t.d.fact 22 (f := .glo "needed_by") rfl), FD_needed_by, ok_needed_by T h_least_price h_votes_at h_is_less  FD_needed_by⟩
  obtain ⟨fd__law_rule, FD__law_rule⟩ := c.t.d.def_ 23 (d := dd "_law_rule" 50) rfl
  have h__law_rule : Has false P w K mg base 3 "_law_rule" (top 50) ["pool"] F__law_rule := ⟨_, fd__law_rule, He.glo_ok X G (c.t.d.fact 23 (f := .glo "_law_rule") rfl), FD__law_rule, ok__law_rule T h__law_of h__law_take  FD__law_rule⟩
  have hLT0 : ∀ q ∈ lamTab, LamRun false P w K mg base 3 q.1 q.2 := by
    intro q hq
    simp only [lamTab, List.mem_cons, List.not_mem_nil, or_false] at hq
    rcases hq with rfl
    · exact l_wrong_number.mono (by decide)
  obtain ⟨fd_first_wrong, FD_first_wrong⟩ := c.t.d.def_ 24 (d := dd "first_wrong" 13) rfl
  have h_first_wrong : Has false P w K mg base 4 "first_wrong" (top 13) ["value", "is_right"] F_first_wrong := ⟨_, fd_first_wrong, He.glo_ok X G (c.t.d.fact 24 (f := .glo "first_wrong") rfl), FD_first_wrong, ok_first_wrong T   hLT0 FD_first_wrong⟩
  obtain ⟨fd_check_seats, FD_check_seats⟩ := c.t.d.def_ 25 (d := dd "check_seats" 27) rfl
  have h_check_seats : Has false P w K mg base 4 "check_seats" (top 27) ["seats"] F_check_seats := ⟨_, fd_check_seats, He.glo_ok X G (c.t.d.fact 25 (f := .glo "check_seats") rfl), FD_check_seats, ok_check_seats T h_is_seats  FD_check_seats⟩
  obtain ⟨fd_check_rule, FD_check_rule⟩ := c.t.d.def_ 26 (d := dd "check_rule" 28) rfl
  have h_check_rule : Has false P w K mg base 4 "check_rule" (top 28) ["rule"] F_check_rule := ⟨_, fd_check_rule, He.glo_ok X G (c.t.d.fact 26 (f := .glo "check_rule") rfl), FD_check_rule, ok_check_rule T h_is_rule  FD_check_rule⟩
  obtain ⟨fd_check_table, FD_check_table⟩ := c.t.d.def_ 27 (d := dd "check_table" 33) rfl
  have h_check_table : Has false P w K mg base 4 "check_table" (top 33) ["poll", "value"] F_check_table := ⟨_, fd_check_table, He.glo_ok X G (c.t.d.fact 27 (f := .glo "check_table") rfl), FD_check_table, ok_check_table T h_is_table  FD_check_table⟩
  obtain ⟨fd_more_by, FD_more_by⟩ := c.t.d.def_ 28 (d := dd "more_by" 43) rfl
  have h_more_by : Has false P w K mg base 4 "more_by" (top 43) ["poll", "table"] F_more_by := ⟨_, fd_more_by, He.glo_ok X G (c.t.d.fact 28 (f := .glo "more_by") rfl), FD_more_by, ok_more_by T h_needed_by  FD_more_by⟩
  obtain ⟨fd__law_poll, FD__law_poll⟩ := c.t.d.def_ 29 (d := dd "_law_poll" 51) rfl
  have h__law_poll : Has false P w K mg base 4 "_law_poll" (top 51) ["pool", "parties", "top", "seats"] F__law_poll := ⟨_, fd__law_poll, He.glo_ok X G (c.t.d.fact 29 (f := .glo "_law_poll") rfl), FD__law_poll, ok__law_poll T h__law_rule h__law_take h__law_of  FD__law_poll⟩
  obtain ⟨fd_wrong_number, FD_wrong_number⟩ := c.t.d.def_ 30 (d := dd "wrong_number" 21) rfl
  have h_wrong_number : Has false P w K mg base 5 "wrong_number" (top 21) ["value"] F_wrong_number := ⟨_, fd_wrong_number, He.glo_ok X G (c.t.d.fact 30 (f := .glo "wrong_number") rfl), FD_wrong_number, ok_wrong_number T h_first_wrong  TF (by rw [He.glo_ok X G (c.t.d.fact 30 (f := .glo "wrong_number") rfl)]; simp) rfl FD_wrong_number⟩
  obtain ⟨fd_votes_for_by, FD_votes_for_by⟩ := c.t.d.def_ 31 (d := dd "votes_for_by" 44) rfl
  have h_votes_for_by : Has false P w K mg base 5 "votes_for_by" (top 44) ["poll", "table"] F_votes_for_by := ⟨_, fd_votes_for_by, He.glo_ok X G (c.t.d.fact 31 (f := .glo "votes_for_by") rfl), FD_votes_for_by, ok_votes_for_by T h_more_by  FD_votes_for_by⟩
  obtain ⟨fd_are_votes, FD_are_votes⟩ := c.t.d.def_ 32 (d := dd "are_votes" 22) rfl
  have h_are_votes : Has false P w K mg base 6 "are_votes" (top 22) ["value"] F_are_votes := ⟨_, fd_are_votes, He.glo_ok X G (c.t.d.fact 32 (f := .glo "are_votes") rfl), FD_are_votes, ok_are_votes T h_is_row h_wrong_number  FD_are_votes⟩
  obtain ⟨fd_votes_for, FD_votes_for⟩ := c.t.d.def_ 33 (d := dd "votes_for" 45) rfl
  have h_votes_for : Has false P w K mg base 6 "votes_for" (top 45) ["poll", "table"] F_votes_for := ⟨_, fd_votes_for, He.glo_ok X G (c.t.d.fact 33 (f := .glo "votes_for") rfl), FD_votes_for, ok_votes_for T h_check_asked h_check_table h_votes_for_by  FD_votes_for⟩
  obtain ⟨fd_check_votes, FD_check_votes⟩ := c.t.d.def_ 34 (d := dd "check_votes" 26) rfl
  have h_check_votes : Has false P w K mg base 7 "check_votes" (top 26) ["votes"] F_check_votes := ⟨_, fd_check_votes, He.glo_ok X G (c.t.d.fact 34 (f := .glo "check_votes") rfl), FD_check_votes, ok_check_votes T h_is_row h_wrong_number h_are_votes  FD_check_votes⟩
  obtain ⟨fd_Poll___init__, FD_Poll___init__⟩ := c.t.d.def_ 35 (d := dm "Poll" 29 0) rfl
  have H_Poll : HasI P w K mg base 8 "Poll" ["votes", "seats", "rule"] (defArgs (topM 29 0)) ["self", "votes", "seats", "rule"] I_Poll := ⟨_, fd_Poll___init__, _, _, He.glo_ok X G (c.t.d.fact 44 (f := .glo "Poll") rfl), He.mkr_ok (c.t.d.fact 35 (f := .mkr "Poll") rfl), FD_Poll___init__, ok_Poll___init__ T h_are_enough h_check_rule h_check_seats h_check_votes  FD_Poll___init__⟩
  obtain ⟨fd__law_right, FD__law_right⟩ := c.t.d.def_ 36 (d := dd "_law_right" 54) rfl
  have h__law_right : Has true P w K mg base 10 "_law_right" (top 54) ["pool", "most"] F__law_right := ⟨_, fd__law_right, He.glo_ok X G (c.t.d.fact 36 (f := .glo "_law_right") rfl), FD__law_right, ok__law_right T h__law_poll h__law_ways h__law_results h__law_of h_votes_for H_Poll FD__law_right⟩
  obtain ⟨fd_law, FD_law⟩ := c.t.d.def_ 37 (d := dd "law" 55) rfl
  have h_law : Has true P w K mg base 11 "law" (top 55) ["script"] F_law := ⟨_, fd_law, He.glo_ok X G (c.t.d.fact 37 (f := .glo "law") rfl), FD_law, ok_law T h__law_pool h__law_right  FD_law⟩
  exact h_law
/-- the plain law, and the script as the model hands it in -/
theorem sp_law {K : PySem.W.Frag} {mg : Str → Option Value} {H : Hp} {a : Addr} {ns : List Int} (hin : ∀ p ∈ TBL, mg p.1 ≠ none → He.cT K (p.1, none) ∈ tf.map (He.cT K)) (hT : ∀ p ∈ tf.map (He.cT K), H p.2 = some (.tbl #[])) (hS : SqL K H a (ns.map V.int)) (h : ∃ S', F_law [.kls (ns.map D.int)] [] = .ok (.bl true) S') : spD K mg F_law [.ref a] H (fun v _ => v = .bl true) (fun _ _ _ => False) := by
  obtain ⟨S', e⟩ := h
  refine ⟨⟨[], []⟩, [.kls (ns.map D.int)], [], ⟨rfl, List.nodup_nil, fun n c a hc => by simp at hc, fun a ha => by simp at ha, fun p hp hm => ⟨by simp, by simp, #[], hT _ (hin p hp hm), True.intro, fun pos cv z => by
    have z : codeAmong pos [] = some cv := z
    simp [codeAmong] at z⟩, fun a ha => by simp at ha⟩, ?_, ?_⟩
  · refine .cons ?_ .nil
    rcases hS with q | q
    · exact .kls q ⟨by simp, by simp⟩ (RepL.of_ints ns)
    · exact .klsK q (RepL.of_ints ns)
  · rw [e]
    intro ι' H' v _ _ r
    cases r
    rfl
end Q
end

section
set_option linter.all false
set_option autoImplicit false
/-! results, in plain numbers -/
namespace M
/-! ### sums over the first n -/
def fsum (n : Nat) (f : Nat → Nat) : Nat := ((List.range n).map f).sum
@[simp] theorem fsum_zero (f : Nat → Nat) : fsum 0 f = 0 := rfl
theorem fsum_succ (n : Nat) (f : Nat → Nat) : fsum (n + 1) f = fsum n f + f n := by
  unfold fsum
  rw [List.range_succ, List.map_append, List.sum_append]
  simp
theorem fsum_le {n : Nat} {f g : Nat → Nat} (h : ∀ p < n, f p ≤ g p) : fsum n f ≤ fsum n g := by
  induction n with
  | zero => simp
  | succ n ih =>
    rw [fsum_succ, fsum_succ]
    have := ih fun p hp => h p (by omega)
    have := h n (by omega)
    omega
theorem fsum_lt {n : Nat} {f g : Nat → Nat} (h : ∀ p < n, f p ≤ g p) {i : Nat} (hi : i < n) (h2 : f i < g i) : fsum n f < fsum n g := by
  induction n with
  | zero => omega
  | succ n ih =>
    rw [fsum_succ, fsum_succ]
    have h1 := h n (by omega)
    by_cases e : i = n
    · subst e
      have := fsum_le (n := i) (f := f) (g := g) fun p hp => h p (by omega)
      omega
    · have := ih (fun p hp => h p (by omega)) (by omega)
      omega
theorem fsum_congr {n : Nat} {f g : Nat → Nat} (h : ∀ p < n, f p = g p) : fsum n f = fsum n g := by
  induction n with
  | zero => simp
  | succ n ih => rw [fsum_succ, fsum_succ, ih fun p hp => h p (by omega), h n (by omega)]
theorem fsum_add (n : Nat) (f g : Nat → Nat) : fsum n (fun p => f p + g p) = fsum n f + fsum n g := by
  induction n with
  | zero => simp
  | succ n ih =>
    rw [fsum_succ, fsum_succ, fsum_succ, ih]
    omega
theorem fsum_ge {n : Nat} {f : Nat → Nat} {i : Nat} (hi : i < n) : f i ≤ fsum n f := by
  induction n with
  | zero => omega
  | succ n ih =>
    rw [fsum_succ]
    by_cases e : i = n
    · subst e; omega
    · have := ih (by omega)
      omega
/-! ### counting what falls -/
theorem dec_count (P : Nat → Bool) : ∀ s, (∀ i j, i ≤ j → j < s → P j = true → P i = true) → ∀ k, k < s → (P k = true ↔ k < (List.range s).countP P) := by
  intro s
  induction s with
  | zero => intro _ k hk; omega
  | succ s ih =>
    intro hP k hk
    have ih := ih fun i j h1 h2 => hP i j h1 (by omega)
    rw [List.range_succ, List.countP_append, List.countP_singleton]
    have hle : (List.range s).countP P ≤ s := by
      have := List.countP_le_length (p := P) (l := List.range s)
      simpa using this
    by_cases hs : P s = true
    · have all : (List.range s).countP P = s := by
        have : (List.range s).countP P = (List.range s).length := List.countP_eq_length.mpr fun i hi => hP i s (by have := List.mem_range.mp hi; omega) (by omega) hs
        simpa using this
      rw [all, if_pos hs]
      exact ⟨fun _ => hk, fun _ => hP k s (by omega) (by omega) hs⟩
    · rw [if_neg hs]
      by_cases e : k = s
      · subst e
        exact ⟨fun z => absurd z hs, fun z => by omega⟩
      · have := ih k (by omega)
        rw [this]
        omega
/-- the seats of a party above a mark -/
def cab (w : Nat → Int) (s : Nat) (m : Int) : Nat := (List.range s).countP fun k => decide (m < w k)
/-- .. at it, or above -/
def cge (w : Nat → Int) (s : Nat) (m : Int) : Nat := (List.range s).countP fun k => decide (m ≤ w k)
section
variable {w : Nat → Int} {s : Nat} {m : Int} (hd : ∀ i j, i < j → j ≤ s → w j < w i)
include hd
theorem cab_iff {k : Nat} (hk : k < s) : m < w k ↔ k < cab w s m := by
  have := dec_count (fun k => decide (m < w k)) s (fun i j hij hjs h => by
    simp only [decide_eq_true_eq] at h ⊢
    by_cases e : i = j
    · subst e; exact h
    · have := hd i j (by omega) (by omega)
      omega) k hk
  simpa [cab] using this
theorem cge_iff {k : Nat} (hk : k < s) : m ≤ w k ↔ k < cge w s m := by
  have := dec_count (fun k => decide (m ≤ w k)) s (fun i j hij hjs h => by
    simp only [decide_eq_true_eq] at h ⊢
    by_cases e : i = j
    · subst e; exact h
    · have := hd i j (by omega) (by omega)
      omega) k hk
  simpa [cge] using this
omit hd in
theorem cab_le : cab w s m ≤ s := by
  have := List.countP_le_length (p := fun k => decide (m < w k)) (l := List.range s)
  simpa [cab] using this
omit hd in
theorem cge_le : cge w s m ≤ s := by
  have := List.countP_le_length (p := fun k => decide (m ≤ w k)) (l := List.range s)
  simpa [cge] using this
/-- at most one seat is at the mark -/
theorem cge_tie : cge w s m = cab w s m + (if cab w s m < s ∧ w (cab w s m) = m then 1 else 0) := by
  have hc := cab_le (w := w) (s := s) (m := m)
  have hg := cge_le (w := w) (s := s) (m := m)
  generalize hC : cab w s m = c at *
  generalize hG : cge w s m = g at *
  have i1 : ∀ k, k < s → (m < w k ↔ k < c) := fun k hk => by rw [← hC]; exact cab_iff hd hk
  have i2 : ∀ k, k < s → (m ≤ w k ↔ k < g) := fun k hk => by rw [← hG]; exact cge_iff hd hk
  have le : c ≤ g := by
    by_cases z : c ≤ g
    · exact z
    · have h1 := (i1 g (by omega)).mpr (by omega)
      have h2 := (i2 g (by omega)).mp (by omega)
      omega
  have le2 : g ≤ c + 1 := by
    by_cases z : g ≤ c + 1
    · exact z
    · have a1 := (i2 (c + 1) (by omega)).mpr (by omega)
      have a2 := (i2 c (by omega)).mpr (by omega)
      have a3 : ¬ m < w c := fun z => by have := (i1 c (by omega)).mp z; omega
      have := hd c (c + 1) (by omega) (by omega)
      omega
  by_cases h : c < s ∧ w c = m
  · rw [if_pos h]
    have := (i2 c h.1).mp (by rw [h.2]; exact Int.le_refl _)
    omega
  · rw [if_neg h]
    by_cases e : g = c
    · omega
    · have e : g = c + 1 := by omega
      have a1 := (i2 c (by omega)).mpr (by omega)
      have a3 : ¬ m < w c := fun z => by have := (i1 c (by omega)).mp z; omega
      exact absurd ⟨by omega, by omega⟩ h
end
/-! ### tables -/
/-- n parties, v whether one counts, w its claims -/
structure Res (n s : Nat) (v : Nat → Bool) (w : Nat → Nat → Int) (t : Nat → Nat) : Prop where
  sum : fsum n t = s
  idle : ∀ p < n, v p = false → t p = 0
  ok : ∀ i < n, ∀ j < n, 0 < t i → v j = true → w j (t j) ≤ w i (t i - 1)
/-- what is sure of a party -/
def sur (s : Nat) (v : Nat → Bool) (w : Nat → Nat → Int) (m : Int) (p : Nat) : Nat := if v p = true then cab (w p) s m else 0
def tie (s : Nat) (v : Nat → Bool) (w : Nat → Nat → Int) (m : Int) (p : Nat) : Bool := v p && decide (cab (w p) s m < s) && decide (w p (cab (w p) s m) = m)
structure Tab (n s : Nat) (v : Nat → Bool) (w : Nat → Nat → Int) (m : Int) (t : Nat → Nat) : Prop where
  sum : fsum n t = s
  ok : ∀ p < n, t p = sur s v w m p ∨ (t p = sur s v w m p + 1 ∧ tie s v w m p = true)
/-- a mark: fewer than s claims are above it, s or more at it or above -/
structure Mrk (n s : Nat) (v : Nat → Bool) (w : Nat → Nat → Int) (m : Int) : Prop where
  lo : fsum n (sur s v w m) < s
  hi : s ≤ fsum n fun p => sur s v w m p + (if tie s v w m p = true then 1 else 0)
theorem res_iff {n s : Nat} {v : Nat → Bool} {w : Nat → Nat → Int} {m : Int} (hd : ∀ p < n, v p = true → ∀ i j, i < j → j ≤ s → w p j < w p i) (hm : Mrk n s v w m) (t : Nat → Nat) : Res n s v w t ↔ Tab n s v w m t := by
  have C : ∀ p < n, v p = true → ∀ k < s, (m < w p k ↔ k < sur s v w m p) := fun p hp hv k hk => by
    unfold sur
    rw [if_pos hv]
    exact cab_iff (hd p hp hv) hk
  have G : ∀ p < n, v p = true → ∀ k < s, (m ≤ w p k ↔ k < sur s v w m p + (if tie s v w m p = true then 1 else 0)) := fun p hp hv k hk => by
    have e := cge_tie (hd p hp hv) (s := s) (m := m)
    have e2 : sur s v w m p = cab (w p) s m := by unfold sur; rw [if_pos hv]
    have e3 : tie s v w m p = true ↔ (cab (w p) s m < s ∧ w p (cab (w p) s m) = m) := by
      unfold tie
      rw [hv]
      simp
    rw [cge_iff (hd p hp hv) hk, e, e2]
    by_cases z : tie s v w m p = true
    · rw [if_pos z, if_pos (e3.mp z)]
    · rw [if_neg z, if_neg (fun y => z (e3.mpr y))]
  have Z : ∀ p, v p = false → sur s v w m p = 0 ∧ tie s v w m p = false := fun p hv => by
    unfold sur tie
    rw [hv]
    simp
  have lt : ∀ p < n, sur s v w m p < s := fun p hp => Nat.lt_of_le_of_lt (fsum_ge hp) hm.lo
  constructor
  · intro h
    refine ⟨h.sum, fun i hi => ?_⟩
    have tl : ∀ p < n, t p ≤ s := fun p hp => by rw [← h.sum]; exact fsum_ge hp
    cases hv : v i with
    | false =>
      rw [h.idle i hi hv, (Z i hv).1]
      exact .inl rfl
    | true =>
      have ge : sur s v w m i ≤ t i := by
        by_cases z : sur s v w m i ≤ t i
        · exact z
        · exfalso
          have hlt := lt i hi
          have h1 := (C i hi hv (t i) (by omega)).mpr (by omega)
          have : fsum n t ≤ fsum n (sur s v w m) := fsum_le fun j hj => by
            by_cases tj : t j = 0
            · omega
            · have vj : v j = true := by
                cases e : v j with
                | true => rfl
                | false => exact absurd (h.idle j hj e) tj
              have h2 := h.ok j hj i hi (by omega) hv
              have := tl j hj
              have := (C j hj vj (t j - 1) (by omega)).mp (by omega)
              omega
          have := hm.lo
          have := h.sum
          omega
      by_cases e : t i = sur s v w m i
      · exact .inl e
      · right
        by_cases z : t i = sur s v w m i + 1 ∧ tie s v w m i = true
        · exact z
        · exfalso
          have ti := tl i hi
          have h1 : ¬ m ≤ w i (t i - 1) := fun y => by
            have := (G i hi hv (t i - 1) (by omega)).mp y
            by_cases x : tie s v w m i = true
            · rw [if_pos x] at this
              exact z ⟨by omega, x⟩
            · rw [if_neg x] at this
              omega
          have : fsum n (fun p => sur s v w m p + (if tie s v w m p = true then 1 else 0)) < fsum n t := by
            refine fsum_lt (fun j hj => ?_) hi ?_
            · cases vj : v j with
              | false => rw [(Z j vj).1, (Z j vj).2]; simp
              | true =>
                have h2 := h.ok i hi j hj (by omega) vj
                by_cases y : sur s v w m j + (if tie s v w m j = true then 1 else 0) ≤ t j
                · exact y
                · exfalso
                  have hl := lt j hj
                  have tj : t j < s := by
                    by_cases x : t j < s
                    · exact x
                    · by_cases x2 : tie s v w m j = true
                      · rw [if_pos x2] at y
                        omega
                      · rw [if_neg x2] at y
                        omega
                  have := (G j hj vj (t j) tj).mpr (by omega)
                  omega
            · by_cases x : tie s v w m i = true
              · rw [if_pos x]
                have : t i ≠ sur s v w m i + 1 := fun q => z ⟨q, x⟩
                omega
              · rw [if_neg x]
                omega
          have := hm.hi
          have := h.sum
          omega
  · intro h
    refine ⟨h.sum, fun p hp hv => ?_, fun i hi j hj ti vj => ?_⟩
    · rcases h.ok p hp with e | ⟨e, z⟩
      · rw [e, (Z p hv).1]
      · rw [(Z p hv).2] at z
        cases z
    · have vi : v i = true := by
        cases e : v i with
        | true => rfl
        | false =>
          rcases h.ok i hi with q | ⟨q, z⟩
          · rw [(Z i e).1] at q
            omega
          · rw [(Z i e).2] at z
            cases z
      have up : m ≤ w i (t i - 1) := by
        have hl := lt i hi
        rcases h.ok i hi with e | ⟨e, z⟩
        · have := (C i hi vi (t i - 1) (by omega)).mpr (by omega)
          omega
        · refine (G i hi vi (t i - 1) (by omega)).mpr ?_
          rw [if_pos z]
          omega
      have dn : w j (t j) ≤ m := by
        have hl := lt j hj
        rcases h.ok j hj with e | ⟨e, z⟩
        · by_cases x : w j (t j) ≤ m
          · exact x
          · have := (C j hj vj (t j) (by omega)).mp (by omega)
            omega
        · have z2 : w j (sur s v w m j) = m := by
            unfold tie at z
            unfold sur
            rw [if_pos vj]
            simp only [Bool.and_eq_true, decide_eq_true_eq] at z
            exact z.2
          have := hd j hj vj (sur s v w m j) (t j) (by omega) (by omega)
          omega
      omega
end M
end

section
set_option linter.all false
set_option maxRecDepth 100000
set_option maxHeartbeats 1000000
set_option autoImplicit false
/-! rows of whole numbers in order; combinations -/
namespace M
open DL PySem PySem.W
def tupI (t : List Int) : D := .tup (t.map .int)
def lstI (t : List Int) : D := .lst (t.map .int)
/-- Python's order of rows -/
def ltI : List Int → List Int → Bool
  | [], [] => false
  | [], _ :: _ => true
  | _ :: _, [] => false
  | x :: xs, y :: ys => if x = y then ltI xs ys else decide (x < y)
theorem py0L_ints : ∀ t : List Int, py0L (t.map D.int) = some (t.map PyData.int)
  | [] => rfl
  | x :: t => by
    have ih := py0L_ints t
    simp only [List.map_cons]
    unfold py0L
    simp [py0, ih]
theorem py0_tupI (t : List Int) : py0 (tupI t) = some (.tuple (t.map .int)) := by
  unfold tupI
  unfold py0
  rw [py0L_ints]
  rfl
theorem encD_tupI (t : List Int) : encD (tupI t) = .tuple (t.map .int) := by
  unfold encD
  rw [py0_tupI]
  rfl
theorem lt_ints : ∀ xs ys : List Int, PyProof.Rows.lexLt PyProof.Rows.itemOrd (keyToksAll (xs.map PyData.int)) (keyToksAll (ys.map PyData.int)) = ltI xs ys
  | [], [] => by
    simp only [List.map_nil, ltI]
    exact PyProof.Rows.lex_irrefl _
  | [], y :: ys => by
    simp only [List.map_nil, List.map_cons, ltI, keyToksAll, List.cons_append]
    rw [PyProof.Rows.lex_diff (O := PyProof.Rows.itemOrd) (by simp)]
    rfl
  | x :: xs, [] => by
    simp only [List.map_nil, List.map_cons, ltI, keyToksAll, List.cons_append]
    rw [PyProof.Rows.lex_diff (O := PyProof.Rows.itemOrd) (by simp)]
    rfl
  | x :: xs, y :: ys => by
    have ih := lt_ints xs ys
    simp only [List.map_cons]
    rw [dataLt_cons (by simp [alike]), dataLt_int, ih]
    simp [ltI, PyData.eqv]
theorem dataLt_ints (xs ys : List Int) : dataLt (.tuple (xs.map PyData.int)) (.tuple (ys.map PyData.int)) = ltI xs ys := by
  rw [dataLt_tuple, lt_ints]
theorem ltI_irr : ∀ x : List Int, ltI x x = false
  | [] => rfl
  | x :: xs => by simp [ltI, ltI_irr xs]
theorem ltI_tot : ∀ x y : List Int, x = y ∨ ltI x y = true ∨ ltI y x = true
  | [], [] => .inl rfl
  | [], _ :: _ => .inr (.inl rfl)
  | _ :: _, [] => .inr (.inr rfl)
  | x :: xs, y :: ys => by
    by_cases e : x = y
    · subst e
      rcases ltI_tot xs ys with h | h | h
      · subst h; exact .inl rfl
      · exact .inr (.inl (by simp [ltI, h]))
      · exact .inr (.inr (by simp [ltI, h]))
    · by_cases h : x < y
      · exact .inr (.inl (by simp [ltI, e, h]))
      · exact .inr (.inr (by simp [ltI, Ne.symm e]; omega))
theorem ltI_asym : ∀ x y : List Int, ltI x y = true → ltI y x = false
  | [], [], h => by cases h
  | [], _ :: _, _ => rfl
  | _ :: _, [], h => by cases h
  | x :: xs, y :: ys, h => by
    by_cases e : x = y
    · subst e
      simp only [ltI, if_true] at h ⊢
      exact ltI_asym xs ys h
    · simp only [ltI, if_neg e, decide_eq_true_eq] at h
      simp only [ltI, if_neg (Ne.symm e), decide_eq_false_iff_not]
      omega
theorem ltI_trans : ∀ x y z : List Int, ltI x y = true → ltI y z = true → ltI x z = true
  | [], [], z, h, _ => by cases h
  | [], _ :: _, [], _, h => by cases h
  | [], _ :: _, _ :: _, _, _ => rfl
  | _ :: _, [], _, h, _ => by cases h
  | _ :: _, _ :: _, [], _, h => by cases h
  | x :: xs, y :: ys, z :: zs, h, k => by
    simp only [ltI] at h k ⊢
    by_cases e : x = y
    · subst e
      rw [if_pos rfl] at h
      by_cases f : x = z
      · subst f
        rw [if_pos rfl] at k ⊢
        exact ltI_trans xs ys zs h k
      · rw [if_neg f] at k ⊢
        exact k
    · rw [if_neg e, decide_eq_true_eq] at h
      by_cases f : y = z
      · subst f
        rw [if_neg e]
        simpa using h
      · rw [if_neg f, decide_eq_true_eq] at k
        have : x ≠ z := by omega
        rw [if_neg this, decide_eq_true_eq]
        omega
/-- rows sorted -/
def sortI (L : List (List Int)) : List (List Int) := L.mergeSort fun a b => !ltI b a
theorem leI_tot : PySem.W.TotalLe (fun a b : List Int => !ltI b a) := by
  refine ⟨fun a b c h1 h2 => ?_, fun a b => ?_⟩
  · simp only [Bool.not_eq_true'] at h1 h2 ⊢
    rcases ltI_tot b a with e | e | e
    · subst e; exact h2
    · rw [h1] at e; cases e
    · rcases ltI_tot c b with f | f | f
      · subst f; exact h1
      · rw [h2] at f; cases f
      · exact ltI_asym a c (ltI_trans a b c e f)
  · simp only [Bool.not_eq_true']
    rcases ltI_tot a b with e | e | e
    · subst e; exact .inl (ltI_irr a)
    · exact .inl (ltI_asym a b e)
    · exact .inr (ltI_asym b a e)
theorem sortD_tupI (L : List (List Int)) : sortD false (L.map tupI) = (sortI L).map tupI := by
  unfold sortD sortI
  refine (PySem.W.sort_maps tupI fun a _ b _ => ?_).symm
  show _ = !PySem.W.dataLt (encD (tupI b)) (encD (tupI a))
  rw [encD_tupI, encD_tupI, dataLt_ints]
theorem sortI_perm (L : List (List Int)) : (sortI L).Perm L := List.mergeSort_perm _ _
theorem alikeAll_ints : ∀ a b : List Int, PySem.W.alikeAll (a.map PyData.int) (b.map PyData.int) = true
  | [], _ => by simp [alikeAll]
  | _ :: _, [] => by simp [alikeAll]
  | x :: a, y :: b => by simp [alikeAll, alike, alikeAll_ints a b]
theorem depthAll_ints : ∀ a : List Int, PyData.depthAll (a.map PyData.int) ≤ 1
  | [] => by simp [PyData.depthAll]
  | x :: a => by
    have := depthAll_ints a
    simp [PyData.depthAll, PyData.depth]
    omega
theorem sortB_tupI (L : List (List Int)) (h : ∀ t ∈ L, t ≠ []) : sortB (L.map tupI) = true := by
  unfold sortB alikeB
  simp only [List.all_map, Bool.and_eq_true, List.all_eq_true, Function.comp_apply, py0_tupI, encD_tupI, Option.isSome_some, Bool.or_eq_true, true_and, decide_eq_true_eq]
  refine ⟨⟨fun t _ => ?_, fun a _ b _ => ?_⟩, .inl fun t ht => ?_⟩
  · have := depthAll_ints t
    simp [PyData.depth]
    omega
  · simp only [alike]
    exact alikeAll_ints a b
  · cases t with
    | nil => exact absurd rfl (h _ ht)
    | cons x t => rfl
/-- ascending, each once -/
def Asc (L : List (List Int)) : Prop := L.Pairwise fun a b => ltI a b = true
theorem sortI_asc {L : List (List Int)} (h : L.Nodup) : Asc (sortI L) := by
  have h1 := PySem.W.sort_pairwise leI_tot L
  have h2 : (sortI L).Nodup := (sortI_perm L).nodup_iff.mpr h
  have h3 : (sortI L).Pairwise fun a b => a ≠ b := h2
  refine (List.pairwise_and_iff.mpr ⟨h1, h3⟩).imp fun {a b} ⟨x, y⟩ => ?_
  rcases ltI_tot a b with e | e | e
  · exact absurd e y
  · exact e
  · simp only [Bool.not_eq_true'] at x
    rw [x] at e
    cases e
theorem asc_eq : ∀ {L M : List (List Int)}, Asc L → Asc M → (∀ t, t ∈ L ↔ t ∈ M) → L = M
  | [], [], _, _, _ => rfl
  | [], m :: M, _, _, h => absurd ((h m).mpr List.mem_cons_self) (by simp)
  | l :: L, [], _, _, h => absurd ((h l).mp List.mem_cons_self) (by simp)
  | l :: L, m :: M, hl, hm, h => by
    have l1 := List.pairwise_cons.mp hl
    have m1 := List.pairwise_cons.mp hm
    have e : l = m := by
      rcases List.mem_cons.mp ((h l).mp List.mem_cons_self) with z | z
      · exact z
      · rcases List.mem_cons.mp ((h m).mpr List.mem_cons_self) with y | y
        · exact y.symm
        · have a := m1.1 l z
          have b := l1.1 m y
          rw [ltI_asym _ _ a] at b
          cases b
    subst e
    rw [asc_eq l1.2 m1.2 fun t => ?_]
    constructor
    · intro ht
      rcases List.mem_cons.mp ((h t).mp (List.mem_cons_of_mem _ ht)) with z | z
      · subst z
        have := l1.1 t ht
        rw [ltI_irr] at this
        cases this
      · exact z
    · intro ht
      rcases List.mem_cons.mp ((h t).mpr (List.mem_cons_of_mem _ ht)) with z | z
      · subst z
        have := m1.1 t ht
        rw [ltI_irr] at this
        cases this
      · exact z
theorem mem_sortI {L : List (List Int)} {t : List Int} : t ∈ sortI L ↔ t ∈ L := (sortI_perm L).mem_iff
theorem asc_sort {L : List (List Int)} (h : Asc L) : sortI L = L := asc_eq (sortI_asc (h.imp fun {a b} z e => by subst e; rw [ltI_irr] at z; cases z)) h fun t => mem_sortI
theorem asc_nodup {L : List (List Int)} (h : Asc L) : L.Nodup := h.imp fun {a b} z e => by subst e; rw [ltI_irr] at z; cases z
/-! ### combinations -/
def combos {α : Type} : List α → Nat → List (List α)
  | _, 0 => [[]]
  | [], _ + 1 => []
  | x :: xs, r + 1 => (combos xs r).map (x :: ·) ++ combos xs (r + 1)
theorem cmb_combos {α : Type} (all : List α) : ∀ (m lo r : Nat), lo + m = all.length → ((DC.cmb lo m r).map fun idx => idx.filterMap fun i => all[i]?) = combos (all.drop lo) r
  | m, lo, 0, h => by cases m <;> simp [DC.cmb, combos]
  | 0, lo, r + 1, h => by
    have : all.drop lo = [] := List.drop_eq_nil_of_le (by omega)
    rw [this]
    simp [DC.cmb, combos]
  | m + 1, lo, r + 1, h => by
    have hl : lo < all.length := by omega
    have e : all.drop lo = all[lo] :: all.drop (lo + 1) := List.drop_eq_getElem_cons hl
    rw [e]
    have h1 := cmb_combos all m (lo + 1) r (by omega)
    have h2 := cmb_combos all m (lo + 1) (r + 1) (by omega)
    simp only [DC.cmb, combos, List.map_append, List.map_map]
    rw [h2, ← h1, List.map_map]
    congr 1
    refine List.map_congr_left fun idx _ => ?_
    simp [List.getElem?_eq_getElem hl]
theorem rows_combos {α : Type} (xs : List α) (r : Nat) : DC.rows xs r = combos xs r := by
  have := cmb_combos xs xs.length 0 r (by omega)
  simpa [DC.rows] using this
theorem mem_combos {α : Type} : ∀ {xs : List α} {r : Nat} {row : List α}, row ∈ combos xs r ↔ row.Sublist xs ∧ row.length = r
  | xs, 0, row => by
    have e : combos xs 0 = [[]] := by cases xs <;> rfl
    rw [e]
    constructor
    · intro h
      have := List.mem_singleton.mp h
      subst this
      exact ⟨List.nil_sublist _, rfl⟩
    · rintro ⟨_, h⟩
      rw [List.length_eq_zero_iff.mp h]
      exact List.mem_singleton.mpr rfl
  | [], r + 1, row => by
    simp only [combos, List.not_mem_nil, false_iff, not_and]
    intro h
    rw [List.sublist_nil.mp h]
    simp
  | x :: xs, r + 1, row => by
    have i1 : ∀ row, row ∈ combos xs r ↔ row.Sublist xs ∧ row.length = r := fun row => mem_combos
    have i2 : ∀ row, row ∈ combos xs (r + 1) ↔ row.Sublist xs ∧ row.length = r + 1 := fun row => mem_combos
    simp only [combos, List.mem_append, List.mem_map, i1, i2]
    constructor
    · rintro (⟨y, ⟨h1, h2⟩, rfl⟩ | ⟨h1, h2⟩)
      · exact ⟨h1.cons_cons x, by simp [h2]⟩
      · exact ⟨h1.cons x, h2⟩
    · rintro ⟨h1, h2⟩
      cases h1 with
      | cons _ h => exact .inr ⟨h, h2⟩
      | cons_cons _ h => exact .inl ⟨_, ⟨h, by simpa using h2⟩, rfl⟩
theorem combos_nodup {α : Type} : ∀ {xs : List α} {r : Nat}, xs.Nodup → (combos xs r).Nodup
  | xs, 0, _ => by
    have e : combos xs 0 = [[]] := by cases xs <;> rfl
    rw [e]
    simp
  | [], r + 1, _ => by simp [combos]
  | x :: xs, r + 1, h => by
    have h1 := List.nodup_cons.mp h
    simp only [combos]
    refine List.nodup_append.mpr ⟨?_, combos_nodup h1.2, fun a ha b hb e => ?_⟩
    · have := combos_nodup (r := r) h1.2
      exact List.Pairwise.map _ (fun a b hab e => hab (by simpa using e)) this
    · subst e
      obtain ⟨y, _, rfl⟩ := List.mem_map.mp ha
      have := (mem_combos.mp hb).1
      exact h1.1 (this.subset List.mem_cons_self)
theorem combos_map {α β : Type} (f : α → β) : ∀ (xs : List α) (r : Nat), combos (xs.map f) r = (combos xs r).map (List.map f)
  | xs, 0 => by cases xs <;> rfl
  | [], r + 1 => rfl
  | x :: xs, r + 1 => by
    simp only [List.map_cons, combos, List.map_append, List.map_map, combos_map f xs r, combos_map f xs (r + 1)]
    rfl
theorem combos_len {α : Type} : ∀ (xs : List α) (r : Nat), (combos xs r).length ≤ 2 ^ xs.length
  | xs, 0 => by cases xs <;> simp [combos, Nat.one_le_two_pow]
  | [], r + 1 => by simp [combos]
  | x :: xs, r + 1 => by
    have h1 := combos_len xs r
    have h2 := combos_len xs (r + 1)
    simp only [combos, List.length_append, List.length_map, List.length_cons]
    rw [Nat.pow_succ]
    omega
end M
end

section
set_option linter.all false
set_option maxRecDepth 100000
set_option maxHeartbeats 1000000
set_option autoImplicit false
/-! reckoning with data, further: in, count, sums, sorted, walks by index -/
namespace M
open DL
theorem pySL_ints (S : Sto) : ∀ (is : List Int), pySL S (is.map D.int) = some (is.map PySem.PyData.int)
  | [] => rfl
  | i :: is => by simp [pySL, pyS, pySL_ints S is]
theorem shaped_ints (is : List Int) : PySem.SeqAt.shaped (.list (is.map PySem.PyData.int)) = true := by
  have h1 : ∀ (is : List Int), PySem.PyData.canLayAll0 (is.map PySem.PyData.int) = true := by
    intro is
    induction is with
    | nil => rfl
    | cons i is ih => simpa [PySem.PyData.canLayAll0, PySem.PyData.canLay0] using ih
  have h2 : ∀ (is : List Int), PySem.PyData.depthAll (is.map PySem.PyData.int) ≤ 0 := by
    intro is
    induction is with
    | nil => exact Nat.le_refl _
    | cons i is ih => simpa [PySem.PyData.depthAll, PySem.PyData.depth] using ih
  have h2' := h2 is
  simp [PySem.SeqAt.shaped, PySem.PyData.canLay0, PySem.PyData.depth, h1 is]
  omega
theorem eqv_ints (i p : Int) : PySem.PyData.eqv (.int i) (.int p) = decide (i = p) := by
  simp [PySem.PyData.eqv]
  by_cases q : i = p <;> simp [q]
theorem cntD_ints (S : Sto) (x : D) (is : List Int) (p : Int) (h : seqOf S x = some (is.map D.int)) : cntD S x (.int p) = some (is.countP fun i => decide (i = p)) := by
  have sp : PySem.SeqAt.shaped (.int p) = true := rfl
  simp only [cntD, h, pySL_ints, Option.bind_some, pyS, shaped_ints, sp, and_self, if_true]
  rw [List.countP_map]
  congr 1
  first | done | exact List.countP_congr fun i _ => by simp [eqv_ints]
theorem inD_ints (S : Sto) (x : D) (is : List Int) (p : Int) (h : seqOf S x = some (is.map D.int)) : inD S (.int p) x = some (decide (p ∈ is)) := by
  have sp : PySem.SeqAt.shaped (.int p) = true := rfl
  simp only [inD, h, pySL_ints, Option.bind_some, pyS, shaped_ints, sp, and_self, if_true]
  congr 1
  rw [List.any_map, Bool.eq_iff_iff]
  simp [eqv_ints]
theorem in_ints (S : Sto) (x : D) (is : List Int) (p : Int) (h : seqOf S x = some (is.map D.int)) : oIn (.int p) x S = .ok (.bl (decide (p ∈ is))) S := by
  simp only [oIn, inD_ints S x is p h]
theorem notIn_ints (S : Sto) (x : D) (is : List Int) (p : Int) (h : seqOf S x = some (is.map D.int)) : oNotIn (.int p) x S = .ok (.bl (!decide (p ∈ is))) S := by
  simp only [oNotIn, inD_ints S x is p h]
theorem intsOf_ints : ∀ is : List Int, intsOf (is.map D.int) = some is
  | [] => rfl
  | i :: is => by simp [intsOf, intsOf_ints is]
/-- a walk by index over a list of the store -/
theorem celE_cur {S : Sto} {k n i : Nat} {ds : List D} (h : S[k]? = some (.lst ds)) : (Src.celE k n).cur S i = Cur.of ((enumL 0 ds)[i]?) := by
  rw [enumL_get]
  simp only [Src.celE, h]
  cases ds[i]? <;> simp [Cur.of]
theorem enumOf_cel {S : Sto} {k : Nat} {ds : List D} (h : S[k]? = some (.lst ds)) : enumOf (.cel k) S = .ok (.celE k ds.length) S := by simp [enumOf, h]
theorem lc_mapE {α : Type} {g : DGn} {t : DTn} {e : DEn} {env0 : Env} {xs : List α} {m k : Nat} {S : Sto} (toD : α → D) (h : Nat → α → D) (hk : S[k]? = some (.lst (xs.map toD))) (hm : m = xs.length) (hz : xs.length ≤ LIM)
    (step : ∀ (i : Nat) (x : α), xs[i]? = some x → ∃ env2, g (.tup [.int i, toD x]) env0 S = .nx env2 S ∧ t env2 S = .ok true S ∧ e env2 S = .ok (h i x) S) :
    lcN (.celE k m) g t e env0 m 0 [] S = .ok (xs.mapIdx h) S := by
  subst hm
  have key : ∀ (n i : Nat) (acc : List D), n + i = xs.length → acc.length ≤ i → lcN (.celE k xs.length) g t e env0 n i acc S = .ok (acc ++ (xs.drop i).mapIdx fun j x => h (i + j) x) S := by
    intro n
    induction n with
    | zero =>
      intro i acc hi _
      have hc : (Src.celE k xs.length).cur S i = .stop := by
        rw [celE_cur hk, enumL_get, List.getElem?_map, List.getElem?_eq_none (by omega)]
        rfl
      rw [List.drop_eq_nil_of_le (by omega)]
      simp [lcN, hc]
    | succ n ih =>
      intro i acc hi ha
      have hl : i < xs.length := by omega
      have hx : xs[i]? = some xs[i] := List.getElem?_eq_getElem hl
      have hc : (Src.celE k xs.length).cur S i = .it (.tup [.int i, toD xs[i]]) := by
        rw [celE_cur hk, enumL_get, List.getElem?_map, hx]
        simp [Cur.of]
      obtain ⟨env2, h1, h2, h3⟩ := step i _ hx
      have hA : acc.length < LIM := by
        have : LIM = 16777216 := rfl
        omega
      have hd : xs.drop i = xs[i] :: xs.drop (i + 1) := List.drop_eq_getElem_cons hl
      rw [hd, List.mapIdx_cons]
      have := ih (i + 1) (acc ++ [h i xs[i]]) (by omega) (by simp; omega)
      simp [lcN, hc, h1, h2, h3, hA, this]
      congr 1
      funext j x
      congr 1
      omega
  have := key xs.length 0 [] (by omega) (by simp)
  simpa using this
theorem mapIdx_range {α : Type} (n : Nat) (f : Nat → α) {β : Type} (h : Nat → α → β) : ((List.range n).map f).mapIdx h = (List.range n).map fun p => h p (f p) := by
  refine List.ext_getElem? fun i => ?_
  rw [List.getElem?_mapIdx, List.getElem?_map, List.getElem?_map]
  by_cases hi : i < n
  · simp [hi]
  · simp [hi]
theorem set_range {α : Type} (n p : Nat) (f g : Nat → α) (h : ∀ q, q ≠ p → f q = g q) (hp : p < n) : ((List.range n).map f).set p (g p) = (List.range n).map g := by
  refine List.ext_getElem? fun i => ?_
  rw [List.getElem?_set]
  by_cases e : p = i
  · subst e
    simp [hp]
  · rw [if_neg e]
    by_cases hi : i < n
    · simp [hi, h i (Ne.symm e)]
    · simp [hi]
theorem fsum_succ' (n : Nat) (f : Nat → Nat) : fsum (n + 1) f = f 0 + fsum n fun p => f (p + 1) := by
  unfold fsum
  rw [List.range_succ_eq_map, List.map_cons, List.sum_cons, List.map_map]
  rfl
theorem fsum_int (n : Nat) (f : Nat → Nat) : (((List.range n).map fun p => ((f p : Nat) : Int)).sum) = ((fsum n f : Nat) : Int) := by
  induction n with
  | zero => rfl
  | succ n ih =>
    rw [fsum_succ, List.range_succ, List.map_append, List.sum_append, ih]
    simp
end M
end

section
set_option linter.all false
set_option maxRecDepth 100000
set_option maxHeartbeats 1000000
set_option autoImplicit false
/-! tables beside tables; what is shown; walks whose items are drawn -/
namespace M
open DL
open PySem (PyData)
abbrev pyI (t : List Int) : PyData := .tuple (t.map .int)
theorem pyS_tupI (S : Sto) (t : List Int) : pyS S (tupI t) = some (pyI t) := by
  simp [tupI, pyS, pySL_ints]
theorem pySL_tupI (S : Sto) : ∀ T : List (List Int), pySL S (T.map tupI) = some (T.map pyI)
  | [] => rfl
  | t :: T => by simp [pySL, pyS_tupI, pySL_tupI S T]
theorem lay_ints : ∀ t : List Int, PyData.canLayAll0 (t.map PyData.int) = true
  | [] => rfl
  | x :: t => by simp [PyData.canLayAll0, PyData.canLay0, lay_ints t]
theorem lay_tabs : ∀ T : List (List Int), PyData.canLayAll0 (T.map pyI) = true
  | [] => rfl
  | t :: T => by simp [PyData.canLayAll0, PyData.canLay0, lay_ints, lay_tabs T]
theorem depth_ints0 : ∀ t : List Int, PyData.depthAll (t.map PyData.int) ≤ 1
  | [] => by simp [PyData.depthAll]
  | x :: t => by
    have := depth_ints0 t
    simp [PyData.depthAll, PyData.depth]
    omega
theorem depth_tabs : ∀ T : List (List Int), PyData.depthAll (T.map pyI) ≤ 3
  | [] => by simp [PyData.depthAll]
  | t :: T => by
    have := depth_tabs T
    have := depth_ints0 t
    simp [PyData.depthAll, PyData.depth]
    omega
theorem eqvAll_ints : ∀ t u : List Int, PyData.eqvAll (t.map PyData.int) (u.map PyData.int) = decide (t = u)
  | [], [] => rfl
  | [], _ :: _ => by simp [PyData.eqvAll]
  | _ :: _, [] => by simp [PyData.eqvAll]
  | x :: t, y :: u => by
    simp only [List.map_cons, PyData.eqvAll, eqvAll_ints t u, eqv_ints]
    by_cases h : x = y <;> by_cases k : t = u <;> simp [h, k]
theorem eqvAll_tabs : ∀ T U : List (List Int), PyData.eqvAll (T.map pyI) (U.map pyI) = decide (T = U)
  | [], [] => rfl
  | [], _ :: _ => by simp [PyData.eqvAll]
  | _ :: _, [] => by simp [PyData.eqvAll]
  | x :: t, y :: u => by
    simp only [List.map_cons, PyData.eqvAll, eqvAll_tabs t u, PyData.eqv, eqvAll_ints]
    by_cases h : x = y <;> by_cases k : t = u <;> simp [h, k]
theorem shaped_tupI (t : List Int) : PySem.SeqAt.shaped (pyI t) = true := by
  have := depth_ints0 t
  simp [PySem.SeqAt.shaped, PyData.canLay0, PyData.depth, lay_ints]
  omega
theorem shaped_tabs (T : List (List Int)) : PySem.SeqAt.shaped (.tuple (T.map pyI)) = true ∧ PySem.SeqAt.shaped (.list (T.map pyI)) = true := by
  have := depth_tabs T
  simp [PySem.SeqAt.shaped, PyData.canLay0, PyData.depth, lay_tabs]
  omega
section
variable (S : Sto)
theorem eqD_tupI (t u : List Int) : eqD S (tupI t) (tupI u) = some (decide (t = u)) := by
  simp only [eqD, pyS_tupI, Option.bind_some, shaped_tupI, and_self, if_true, PyData.eqv, eqvAll_ints]
theorem eq_tupI (t u : List Int) : oEq (tupI t) (tupI u) S = .ok (.bl (decide (t = u))) S := by simp only [oEq, eqD_tupI]
theorem ne_tupI (t u : List Int) : oNe (tupI t) (tupI u) S = .ok (.bl (!decide (t = u))) S := by simp only [oNe, eqD_tupI]
theorem pyS_tabs (T : List (List Int)) : pyS S (.tup (T.map tupI)) = some (.tuple (T.map pyI)) ∧ pyS S (.lst (T.map tupI)) = some (.list (T.map pyI)) := by
  simp [pyS, pySL_tupI]
theorem eq_tabs (T U : List (List Int)) : oEq (.tup (T.map tupI)) (.tup (U.map tupI)) S = .ok (.bl (decide (T = U))) S := by
  simp only [oEq, eqD, (pyS_tabs S _).1, Option.bind_some, (shaped_tabs _).1, and_self, if_true, PyData.eqv, eqvAll_tabs]
theorem ne_tabs (T U : List (List Int)) : oNe (.tup (T.map tupI)) (.tup (U.map tupI)) S = .ok (.bl (!decide (T = U))) S := by
  simp only [oNe, eqD, (pyS_tabs S _).1, Option.bind_some, (shaped_tabs _).1, and_self, if_true, PyData.eqv, eqvAll_tabs]
theorem eq_tabsL (T U : List (List Int)) : oEq (.lst (T.map tupI)) (.lst (U.map tupI)) S = .ok (.bl (decide (T = U))) S := by
  simp only [oEq, eqD, (pyS_tabs S _).2, Option.bind_some, (shaped_tabs _).2, and_self, if_true, PyData.eqv, eqvAll_tabs]
theorem ne_tabsL (T U : List (List Int)) : oNe (.lst (T.map tupI)) (.lst (U.map tupI)) S = .ok (.bl (!decide (T = U))) S := by
  simp only [oNe, eqD, (pyS_tabs S _).2, Option.bind_some, (shaped_tabs _).2, and_self, if_true, PyData.eqv, eqvAll_tabs]
end
/-! ### what is shown -/
def okP (d : PyData) : Bool := d.showable && decide (d.shown.length ≤ 1000) && PySem.SeqAt.shaped d && PySem.SeqAt.shaped (.str d.shown)
theorem repr_of {x : D} {p : PyData} (h : ∀ S, pyS S x = some p) (k : okP p = true) : ∃ t, PySem.SeqAt.shaped (.str t) = true ∧ ∀ S, fRepr [x] S = .ok (.str t) S := by
  unfold okP at k
  simp only [Bool.and_eq_true, decide_eq_true_eq] at k
  refine ⟨p.shown, k.2, fun S => ?_⟩
  simp only [fRepr, h]
  rw [if_pos ⟨k.1.1.1, Nat.le_trans k.1.1.2 (by decide), k.1.2⟩]
theorem repr_bb (x y : Bool) : ∃ t, PySem.SeqAt.shaped (.str t) = true ∧ ∀ S, fRepr [.lst [.bl x, .bl y]] S = .ok (.str t) S :=
  repr_of (p := .list [.bool x, .bool y]) (fun S => rfl) (by cases x <;> cases y <;> decide +kernel)
theorem repr_b (x : Bool) : ∃ t, PySem.SeqAt.shaped (.str t) = true ∧ ∀ S, fRepr [.bl x] S = .ok (.str t) S :=
  repr_of (p := .bool x) (fun S => rfl) (by cases x <;> decide +kernel)
theorem ne_str (S : Sto) (t : PySem.Str) (this : PySem.SeqAt.shaped (.str t) = true) : oNe (.str t) (.str t) S = .ok (.bl false) S := by
  simp [oNe, eqD, pyS, this, PyData.eqv]
theorem eq_str (S : Sto) (t : PySem.Str) (this : PySem.SeqAt.shaped (.str t) = true) : oEq (.str t) (.str t) S = .ok (.bl true) S := by
  simp [oEq, eqD, pyS, this, PyData.eqv]
/-! ### a comprehension whose items are drawn -/
theorem lc_drawn {g : DGn} {t : DTn} {e : DEn} {env0 : Env} {items : List D} {S : Sto} (P : Sto → Prop) (R : D → Prop) (h0 : P S) (hz : items.length ≤ LIM)
    (step : ∀ d S, d ∈ items → P S → ∃ env2 S2 S3 S4 y, g d env0 S = .nx env2 S2 ∧ t env2 S2 = .ok true S3 ∧ e env2 S3 = .ok y S4 ∧ P S4 ∧ R y) :
    ∃ ys S', lcN (.fix items) g t e env0 items.length 0 [] S = .ok ys S' ∧ P S' ∧ ys.length = items.length ∧ ∀ y ∈ ys, R y := by
  have key : ∀ (n i : Nat) (acc : List D) (S : Sto), n + i = items.length → acc.length = i → (∀ y ∈ acc, R y) → P S → ∃ ys S', lcN (.fix items) g t e env0 n i acc S = .ok ys S' ∧ P S' ∧ ys.length = items.length ∧ ∀ y ∈ ys, R y := by
    intro n
    induction n with
    | zero =>
      intro i acc S hi ha hr hp
      have hc : (Src.fix items).cur S i = .stop := by
        show Cur.of items[i]? = _
        rw [List.getElem?_eq_none (by omega)]
        rfl
      exact ⟨acc, S, by simp [lcN, hc], hp, by omega, hr⟩
    | succ n ih =>
      intro i acc S hi ha hr hp
      have hl : i < items.length := by omega
      have hc : (Src.fix items).cur S i = .it items[i] := by
        show Cur.of items[i]? = _
        rw [List.getElem?_eq_getElem hl]
        rfl
      obtain ⟨env2, S2, S3, S4, y, h1, h2, h3, h4, h5⟩ := step items[i] S (List.getElem_mem hl) hp
      have hA : acc.length < LIM := by omega
      obtain ⟨ys, S', e1, e2, e3, e4⟩ := ih (i + 1) (acc ++ [y]) S4 (by omega) (by simp; omega) (by
        intro z hz
        rcases List.mem_append.mp hz with q | q
        · exact hr z q
        · rw [List.mem_singleton.mp q]; exact h5) h4
      refine ⟨ys, S', ?_, e2, e3, e4⟩
      simp [lcN, hc, h1, h2, h3, hA, e1, Res.nox]
  exact key items.length 0 [] S (by omega) rfl (by simp) h0
theorem ints_of {ys : List D} {P : Int → Prop} (h : ∀ y ∈ ys, ∃ i : Int, y = .int i ∧ P i) : ∃ is : List Int, ys = is.map D.int ∧ ∀ i ∈ is, P i := by
  induction ys with
  | nil => exact ⟨[], rfl, by simp⟩
  | cons y ys ih =>
    obtain ⟨i, rfl, hi⟩ := h y List.mem_cons_self
    obtain ⟨is, rfl, hs⟩ := ih fun z hz => h z (List.mem_cons_of_mem _ hz)
    exact ⟨i :: is, rfl, by
      intro j hj
      rcases List.mem_cons.mp hj with q | q
      · rw [q]; exact hi
      · exact hs j q⟩
end M
end

section
set_option linter.all false
set_option maxRecDepth 100000
set_option maxHeartbeats 1000000
set_option autoImplicit false
/-! min, max of rows of whole numbers -/
namespace M
open DL
open PySem (PyData)
theorem encD_int (i : Int) : encD (.int i) = .int i := rfl
theorem alikeB_ints (is : List Int) : alikeB (is.map D.int) = true := by
  have e : ∀ i : Int, (py0 (.int i)) = some (.int i) := fun i => by simp [py0]
  unfold alikeB
  simp only [List.all_map, Bool.and_eq_true, List.all_eq_true, Function.comp_apply, encD_int, e, Option.isSome_some, true_and, decide_eq_true_eq]
  refine ⟨fun i _ => by simp [PyData.depth], fun i _ j _ => by simp [PySem.W.alike]⟩
/-- the greatest, the least of a row -/
def maxI : List Int → Int
  | [] => 0
  | x :: xs => xs.foldl max x
def minI : List Int → Int
  | [] => 0
  | x :: xs => xs.foldl min x
theorem maxDs_ints (x : Int) (xs : List Int) : maxDs (.int x) (xs.map D.int) = .int (xs.foldl max x) := by
  induction xs generalizing x with
  | nil => rfl
  | cons y ys ih =>
    have : maxD1 (.int x) (.int y) = .int (max x y) := by
      unfold maxD1
      rw [encD_int, encD_int, PySem.W.dataLt_int]
      by_cases h : x < y
      · rw [if_pos (decide_eq_true h), Int.max_eq_right (by omega)]
      · rw [if_neg (by simpa using h), Int.max_eq_left (by omega)]
    have ih := ih (max x y)
    simp only [List.map_cons, List.foldl_cons]
    rw [← ih, ← this]
    rfl
theorem minDs_ints (x : Int) (xs : List Int) : minDs (.int x) (xs.map D.int) = .int (xs.foldl min x) := by
  induction xs generalizing x with
  | nil => rfl
  | cons y ys ih =>
    have : minD1 (.int x) (.int y) = .int (min x y) := by
      unfold minD1
      rw [encD_int, encD_int, PySem.W.dataLt_int]
      by_cases h : y < x
      · rw [if_pos (decide_eq_true h), Int.min_eq_right (by omega)]
      · rw [if_neg (by simpa using h), Int.min_eq_left (by omega)]
    have ih := ih (min x y)
    simp only [List.map_cons, List.foldl_cons]
    rw [← ih, ← this]
    rfl
theorem max_ints {S : Sto} {x : D} {is : List Int} (h : seqOf S x = some (is.map D.int)) (hne : is ≠ []) : fMax [x] S = .ok (.int (maxI is)) S := by
  cases is with
  | nil => exact absurd rfl hne
  | cons i is =>
    have hb := alikeB_ints (i :: is)
    simp only [List.map_cons] at hb h
    have hn : ((D.int i :: is.map D.int).all fun e => nonN (encD e)) = true := by simp [encD_int, nonN]
    simp only [fMM, h, hb, hn, Bool.and_self, if_true, maxDs_ints]
    rfl
theorem min_ints {S : Sto} {x : D} {is : List Int} (h : seqOf S x = some (is.map D.int)) (hne : is ≠ []) : fMin [x] S = .ok (.int (minI is)) S := by
  cases is with
  | nil => exact absurd rfl hne
  | cons i is =>
    have hb := alikeB_ints (i :: is)
    simp only [List.map_cons] at hb h
    have hn : ((D.int i :: is.map D.int).all fun e => nonN (encD e)) = true := by simp [encD_int, nonN]
    simp only [fMM, h, hb, hn, Bool.and_self, if_true, minDs_ints]
    rfl
theorem foldmax_spec (xs : List Int) : ∀ x : Int, (xs.foldl max x = x ∨ xs.foldl max x ∈ xs) ∧ x ≤ xs.foldl max x ∧ ∀ y ∈ xs, y ≤ xs.foldl max x := by
  induction xs with
  | nil => intro x; simp
  | cons y ys ih =>
    intro x
    obtain ⟨h1, h2, h3⟩ := ih (max x y)
    refine ⟨?_, by simp only [List.foldl_cons]; omega, fun z hz => ?_⟩
    · simp only [List.foldl_cons]
      rcases h1 with h | h
      · rw [h]
        by_cases q : x ≤ y
        · right; rw [Int.max_eq_right q]; exact List.mem_cons_self
        · left; exact Int.max_eq_left (by omega)
      · exact .inr (List.mem_cons_of_mem _ h)
    · simp only [List.foldl_cons]
      rcases List.mem_cons.mp hz with q | q
      · subst q; omega
      · exact h3 z q
theorem foldmin_spec (xs : List Int) : ∀ x : Int, (xs.foldl min x = x ∨ xs.foldl min x ∈ xs) ∧ xs.foldl min x ≤ x ∧ ∀ y ∈ xs, xs.foldl min x ≤ y := by
  induction xs with
  | nil => intro x; simp
  | cons y ys ih =>
    intro x
    obtain ⟨h1, h2, h3⟩ := ih (min x y)
    refine ⟨?_, by simp only [List.foldl_cons]; omega, fun z hz => ?_⟩
    · simp only [List.foldl_cons]
      rcases h1 with h | h
      · rw [h]
        by_cases q : x ≤ y
        · left; exact Int.min_eq_left q
        · right; rw [Int.min_eq_right (by omega)]; exact List.mem_cons_self
      · exact .inr (List.mem_cons_of_mem _ h)
    · simp only [List.foldl_cons]
      rcases List.mem_cons.mp hz with q | q
      · subst q; omega
      · exact h3 z q
theorem maxI_mem {is : List Int} (h : is ≠ []) : maxI is ∈ is ∧ ∀ y ∈ is, y ≤ maxI is := by
  cases is with
  | nil => exact absurd rfl h
  | cons x xs =>
    obtain ⟨h1, h2, h3⟩ := foldmax_spec xs x
    refine ⟨?_, fun y hy => ?_⟩
    · show xs.foldl max x ∈ x :: xs
      rcases h1 with h | h
      · rw [h]; exact List.mem_cons_self
      · exact List.mem_cons_of_mem _ h
    · rcases List.mem_cons.mp hy with q | q
      · subst q; exact h2
      · exact h3 y q
theorem minI_mem {is : List Int} (h : is ≠ []) : minI is ∈ is ∧ ∀ y ∈ is, minI is ≤ y := by
  cases is with
  | nil => exact absurd rfl h
  | cons x xs =>
    obtain ⟨h1, h2, h3⟩ := foldmin_spec xs x
    refine ⟨?_, fun y hy => ?_⟩
    · show xs.foldl min x ∈ x :: xs
      rcases h1 with h | h
      · rw [h]; exact List.mem_cons_self
      · exact List.mem_cons_of_mem _ h
    · rcases List.mem_cons.mp hy with q | q
      · subst q; exact h2
      · exact h3 y q
end M
end

section
set_option linter.all false
set_option maxRecDepth 100000
set_option maxHeartbeats 1000000
set_option autoImplicit false
/-! all picks of a row; ascending numbers sorted -/
namespace M
open DL
open PySem (PyData)
def picks {α : Type} (ty : List α) : List (List α) := ty.foldl (fun F p => F ++ F.map (· ++ [p])) [[]]
theorem picks_snoc {α : Type} (ty : List α) (p : α) : picks (ty ++ [p]) = picks ty ++ (picks ty).map (· ++ [p]) := by
  unfold picks
  rw [List.foldl_append]
  rfl
theorem mem_picks {α : Type} : ∀ (n : Nat) (ty : List α), ty.length = n → ∀ row, row ∈ picks ty ↔ row.Sublist ty
  | 0, ty, h, row => by
    rw [List.length_eq_zero_iff.mp h]
    simp [picks]
  | n + 1, ty, h, row => by
    rcases List.eq_nil_or_concat ty with e | ⟨t, p, e⟩
    · rw [e] at h; cases h
    · have e : ty = t ++ [p] := by rw [e] <;> simp
      subst e
      have ih := mem_picks n t (by simpa using h)
      rw [picks_snoc, List.mem_append, List.mem_map, ih row, List.sublist_append_iff]
      constructor
      · rintro (h | ⟨r, hr, rfl⟩)
        · exact ⟨row, [], by simp, h, List.nil_sublist _⟩
        · exact ⟨r, [p], rfl, (ih r).mp hr, List.Sublist.refl _⟩
      · rintro ⟨l1, l2, rfl, h1, h2⟩
        cases h2 with
        | cons _ h2 =>
          have := List.sublist_nil.mp h2
          subst this
          left
          simpa using h1
        | cons_cons _ h2 =>
          have := List.sublist_nil.mp h2
          subst this
          exact .inr ⟨l1, (ih l1).mpr h1, rfl⟩
theorem picks_nodup {α : Type} : ∀ (n : Nat) (ty : List α), ty.length = n → ty.Nodup → (picks ty).Nodup
  | 0, ty, h, _ => by
    rw [List.length_eq_zero_iff.mp h]
    simp [picks]
  | n + 1, ty, h, hn => by
    rcases List.eq_nil_or_concat ty with e | ⟨t, p, e⟩
    · rw [e] at h; cases h
    · have e : ty = t ++ [p] := by rw [e] <;> simp
      subst e
      obtain ⟨n1, _, n2⟩ := List.nodup_append.mp hn
      have ih := picks_nodup n t (by simpa using h) n1
      rw [picks_snoc]
      refine List.nodup_append.mpr ⟨ih, List.Pairwise.map _ (fun a b hab e => hab (by simpa using e)) ih, fun a ha b hb e => ?_⟩
      obtain ⟨r, _, rfl⟩ := List.mem_map.mp hb
      subst e
      have := ((mem_picks t.length t rfl _).mp ha).subset (show p ∈ r ++ [p] by simp)
      exact n2 p this p (by simp) rfl
theorem picks_len {α : Type} : ∀ (n : Nat) (ty : List α), ty.length = n → (picks ty).length = 2 ^ n
  | 0, ty, h => by
    rw [List.length_eq_zero_iff.mp h]
    simp [picks]
  | n + 1, ty, h => by
    rcases List.eq_nil_or_concat ty with e | ⟨t, p, e⟩
    · rw [e] at h; cases h
    · have e : ty = t ++ [p] := by rw [e] <;> simp
      subst e
      have ih := picks_len n t (by simpa using h)
      rw [picks_snoc, List.length_append, List.length_map, ih, Nat.pow_succ]
      omega
theorem picks_combos {α : Type} {ty : List α} (h : ty.Nodup) (r : Nat) : ((picks ty).filter fun row => decide (row.length = r)).Perm (combos ty r) := by
  refine (List.perm_ext_iff_of_nodup ((picks_nodup _ ty rfl h).filter _) (combos_nodup h)).mpr fun row => ?_
  rw [List.mem_filter, mem_picks _ ty rfl, mem_combos]
  simp
theorem sort_asc_ints {is : List Int} (h : is.Pairwise (· < ·)) : sortB (is.map D.int) = true ∧ sortD false (is.map D.int) = is.map D.int := by
  constructor
  · unfold sortB
    rw [alikeB_ints]
    simp [encD_int, notT]
  · unfold sortD
    refine List.mergeSort_of_pairwise ?_
    rw [List.pairwise_map]
    refine h.imp fun {a b} hab => ?_
    show (!PySem.W.dataLt (encD (.int b)) (encD (.int a))) = true
    rw [encD_int, encD_int, PySem.W.dataLt_int]
    simp
    omega
theorem sortI_perm_eq {L L' : List (List Int)} (h : L.Perm L') (hn : L.Nodup) : sortI L = sortI L' :=
  asc_eq (sortI_asc hn) (sortI_asc (h.nodup_iff.mp hn)) fun t => by rw [mem_sortI, mem_sortI, h.mem_iff]
theorem count_nodup {row : List Int} (h : row.Nodup) (p : Int) : (row.countP fun i => decide (i = p)) = if p ∈ row then 1 else 0 := by
  induction row with
  | nil => rfl
  | cons x row ih =>
    obtain ⟨h1, h2⟩ := List.nodup_cons.mp h
    rw [List.countP_cons, ih h2]
    by_cases e : x = p
    · subst e
      simp [h1]
    · simp [e, Ne.symm e]
end M
end

section
set_option linter.all false
set_option maxRecDepth 100000
set_option maxHeartbeats 1000000
set_option autoImplicit false
/-! what is shown of numbers, rows of them, rows of rows -/
namespace M
open DL
open PySem (PyData Str)
theorem ok_app {s t : Str} (h : PyData.strOk s = true) (k : PyData.strOk t = true) : PyData.strOk (s ++ t) = true := by
  unfold PyData.strOk at *
  rw [show (s ++ t).cps = s.cps ++ t.cps from rfl, Array.all_append, h, k]
  rfl
theorem ok_lits : PyData.strOk ("(" : Str) = true ∧ PyData.strOk (")" : Str) = true ∧ PyData.strOk (",)" : Str) = true ∧ PyData.strOk (", " : Str) = true ∧ PyData.strOk ("[" : Str) = true ∧ PyData.strOk ("]" : Str) = true ∧ PyData.strOk ("" : Str) = true := by decide +kernel
theorem ok_join : ∀ ts : List Str, (∀ t ∈ ts, PyData.strOk t = true) → PyData.strOk (Str.join ", " ts) = true
  | [], _ => ok_lits.2.2.2.2.2.2
  | [x], h => h x (by simp)
  | x :: y :: r, h => ok_app (ok_app (h x (by simp)) ok_lits.2.2.2.1) (ok_join (y :: r) fun t ht => h t (List.mem_cons_of_mem _ ht))
/-- depth d at most, n signs at most -/
structure Good (d n : Nat) (p : PyData) : Prop where
  show_ : p.showable = true
  len : p.shown.length ≤ n
  ok : PyData.strOk p.shown = true
  lay : p.canLay0 = true
  dep : p.depth ≤ d
set_option exponentiation.threshold 2000 in
theorem good_int {z : Int} (h0 : 0 ≤ z) (h1 : z < 10 ^ 10) : Good 0 10 (.int z) where
  show_ := by
    simp only [PyData.showable, decide_eq_true_eq]
    by_cases e : z.natAbs = 0
    · rw [e]; decide
    · exact (Nat.log2_lt e).mpr (Nat.lt_of_lt_of_le (show z.natAbs < 2 ^ 40 by omega) (Nat.pow_le_pow_right (by decide) (by decide)))
  len := PySem.W.KT.len_num h0 h1
  ok := by
    obtain ⟨m, rfl⟩ := Int.eq_ofNat_of_zero_le h0
    have e : (PyData.shown (.int (m : Int))).cps.toList = (Nat.toDigits 10 m).map Char.toNat := PySem.W.KIN.signs_num m
    unfold PyData.strOk
    rw [← Array.all_toList, e, List.all_map, List.all_eq_true]
    intro c _
    have := c.valid
    simp only [Function.comp_apply, decide_eq_true_eq]
    have h2 : c.toNat < 0x110000 := by
      rcases this with h | ⟨_, h⟩
      · exact Nat.lt_of_lt_of_le h (by decide)
      · exact h
    exact h2
  lay := rfl
  dep := Nat.le_refl _
theorem good_non : Good 0 4 .none := ⟨rfl, by decide +kernel, by decide +kernel, rfl, Nat.le_refl _⟩
theorem good_all {d n : Nat} : ∀ xs : List PyData, (∀ x ∈ xs, Good d n x) → PyData.showableAll xs = true ∧ ((PyData.shownAll xs).map (·.length)).sum ≤ n * xs.length ∧ (PyData.shownAll xs).length = xs.length ∧ (∀ t ∈ PyData.shownAll xs, PyData.strOk t = true) ∧ PyData.canLayAll0 xs = true ∧ PyData.depthAll xs ≤ d
  | [], _ => ⟨rfl, by simp [PyData.shownAll], rfl, by simp [PyData.shownAll], rfl, Nat.zero_le _⟩
  | x :: xs, h => by
    obtain ⟨h1, h2, h3, h4, h5, h6⟩ := good_all xs fun y hy => h y (List.mem_cons_of_mem _ hy)
    have g := h x List.mem_cons_self
    refine ⟨by simp [PyData.showableAll, g.show_, h1], ?_, by simp [PyData.shownAll, h3], ?_, by simp [PyData.canLayAll0, g.lay, h5], ?_⟩
    · simp only [PyData.shownAll, List.map_cons, List.sum_cons, List.length_cons]
      have := g.len
      rw [Nat.mul_add, Nat.mul_one]
      omega
    · intro t ht
      simp only [PyData.shownAll, List.mem_cons] at ht
      rcases ht with rfl | ht
      · exact g.ok
      · exact h4 t ht
    · have := g.dep
      simp only [PyData.depthAll]
      omega
theorem good_list {d n m : Nat} {xs : List PyData} (h : ∀ x ∈ xs, Good d n x) (hm : (n + 2) * xs.length + 3 ≤ m) : Good (d + 1) m (.list xs) := by
  obtain ⟨h1, h2, h3, h4, h5, h6⟩ := good_all xs h
  refine ⟨by simpa [PyData.showable] using h1, ?_, ?_, by simpa [PyData.canLay0] using h5, by simp [PyData.depth]; omega⟩
  · have := PySem.listText_len_le (PyData.shownAll xs)
    simp only [PyData.shown]
    rw [h3] at this
    rw [Nat.add_mul] at hm
    omega
  · simp only [PyData.shown]
    rw [PySem.listText_eq_join]
    exact ok_app (ok_app ok_lits.2.2.2.2.1 (ok_join _ h4)) ok_lits.2.2.2.2.2.1
theorem good_tup {d n m : Nat} {xs : List PyData} (h : ∀ x ∈ xs, Good d n x) (hm : (n + 2) * xs.length + 3 ≤ m) : Good (d + 1) m (.tuple xs) := by
  obtain ⟨h1, h2, h3, h4, h5, h6⟩ := good_all xs h
  refine ⟨by simpa [PyData.showable] using h1, ?_, ?_, by simpa [PyData.canLay0] using h5, by simp [PyData.depth]; omega⟩
  · have := PySem.tupleText_len_le (PyData.shownAll xs)
    simp only [PyData.shown]
    rw [h3] at this
    rw [Nat.add_mul] at hm
    omega
  · simp only [PyData.shown, PySem.tupleText]
    refine ok_app (ok_app ok_lits.1 (ok_join _ h4)) ?_
    split
    · exact ok_lits.2.2.1
    · exact ok_lits.2.1
theorem Good.mono {d n d' n' : Nat} {p : PyData} (h : Good d n p) (hd : d ≤ d') (hn : n ≤ n') : Good d' n' p := ⟨h.show_, Nat.le_trans h.len hn, h.ok, h.lay, Nat.le_trans h.dep hd⟩
theorem repr_good {x : D} {d n : Nat} {p : PyData} (h : ∀ S, pyS S x = some p) (g : Good d n p) (hd : d ≤ 60) (hn : n ≤ 1000) : ∃ t, PySem.SeqAt.shaped (.str t) = true ∧ ∀ S, fRepr [x] S = .ok (.str t) S := by
  refine repr_of h ?_
  have g3 := g.len
  have g5 := g.dep
  unfold okP
  simp only [Bool.and_eq_true, decide_eq_true_eq]
  refine ⟨⟨⟨g.show_, by omega⟩, ?_⟩, ?_⟩
  · simp [PySem.SeqAt.shaped, g.lay]
    omega
  · simp [PySem.SeqAt.shaped, PyData.canLay0, PyData.depth, g.ok]
/-- a number or none -/
inductive OptI : Int → D → Prop
  | int {m z : Int} : 0 ≤ z → z ≤ m → OptI m (.int z)
  | non {m : Int} : OptI m .non
theorem repr_two {x : D} {m : Int} (h : OptI m x) (hm : m < 10 ^ 10) : ∃ t, PySem.SeqAt.shaped (.str t) = true ∧ ∀ S, fRepr [.lst [x, x]] S = .ok (.str t) S := by
  cases h with
  | int h0 h1 =>
    rename_i z
    refine repr_good (d := 1) (n := 27) (p := .list [.int z, .int z]) (fun S => rfl) (good_list (n := 10) (fun x hx => ?_) (Nat.le_refl _)) (by decide) (by decide)
    simp only [List.mem_cons, List.not_mem_nil, or_false, or_self] at hx
    rw [hx]
    exact good_int h0 (by omega)
  | non =>
    refine repr_good (d := 1) (n := 27) (p := .list [.none, .none]) (fun S => rfl) (good_list (n := 4) (fun x hx => ?_) (by show 15 ≤ 27; omega)) (by decide) (by decide)
    simp only [List.mem_cons, List.not_mem_nil, or_false, or_self] at hx
    rw [hx]
    exact good_non
end M
end

section
set_option linter.all false
set_option maxRecDepth 100000
set_option maxHeartbeats 4000000
set_option autoImplicit false
/-! a table among tables; rows cut, two rows at once -/
namespace M
open DL
open PySem (PyData)
theorem inD_tabs (S : Sto) (x : D) (t : List Int) (T : List (List Int)) (h : seqOf S x = some (T.map tupI)) : inD S (tupI t) x = some (decide (t ∈ T)) := by
  have e : pySL S (T.map tupI) = some (T.map pyI) := by
    have := (pyS_tabs S T).1
    simp only [pyS] at this
    cases h2 : pySL S (T.map tupI) with
    | none => rw [h2] at this; cases this
    | some ps =>
      rw [h2] at this
      simp only [Option.map_some, Option.some.injEq, PyData.tuple.injEq] at this
      rw [this]
  simp only [inD, h, Option.bind_some, pyS_tupI, e, shaped_tupI, (shaped_tabs _).2, and_self, if_true]
  congr 1
  rw [List.any_map, Bool.eq_iff_iff]
  simp only [List.any_eq_true, Function.comp_apply, pyI, PyData.eqv, eqvAll_ints, decide_eq_true_eq]
  exact ⟨fun ⟨u, hu, e⟩ => e ▸ hu, fun hu => ⟨t, hu, rfl⟩⟩
theorem in_tabs (S : Sto) (x : D) (t : List Int) (T : List (List Int)) (h : seqOf S x = some (T.map tupI)) : oIn (tupI t) x S = .ok (.bl (decide (t ∈ T))) S := by
  simp only [oIn, inD_tabs S x t T h]
theorem notIn_tabs (S : Sto) (x : D) (t : List Int) (T : List (List Int)) (h : seqOf S x = some (T.map tupI)) : oNotIn (tupI t) x S = .ok (.bl (!decide (t ∈ T))) S := by
  simp only [oNotIn, inD_tabs S x t T h]
theorem cut_take (is : List Int) (k : Nat) : cutD (is.map D.int) none (some (k : Int)) = (is.take k).map D.int := by
  have h1 : HT.sIx (is.map D.int).length (is.map D.int).length (some (k : Int)) = min k is.length := by
    rw [List.length_map]
    show (if (k : Int) < 0 then ((k : Int) + (is.length : Int)).toNat else min ((k : Int)).toNat is.length) = _
    rw [if_neg (by omega), Int.toNat_natCast]
  have h0 : HT.sIx (is.map D.int).length 0 none = 0 := rfl
  unfold cutD
  rw [h1, h0, List.drop_zero, Nat.sub_zero, ← List.map_take]
  congr 1
  rw [← List.take_take]
  by_cases z : k ≤ is.length
  · rw [List.take_of_length_le (l := is) (Nat.le_refl _)]
  · rw [List.take_of_length_le (l := is) (Nat.le_refl _)]
end M
end

section
set_option linter.all false
set_option maxRecDepth 100000
set_option maxHeartbeats 4000000
set_option autoImplicit false
/-! comprehensions whose items change the store; distinct keys; the least of rows of numbers -/
namespace M
open DL
open PySem (PyData)
open PySem.W (alike alikeAll)
/-- a comprehension whose items are told, the store going on -/
theorem lc_st {α : Type} {g : DGn} {t : DTn} {e : DEn} {env0 : Env} {xs : List α} {ds : List D} {S : Sto} (P : Sto → Prop) (toD : α → D) (h : α → D) (hds : ds = xs.map toD) (h0 : P S) (hz : xs.length ≤ LIM)
    (step : ∀ x ∈ xs, ∀ S, P S → ∃ env2 S', g (toD x) env0 S = .nx env2 S ∧ t env2 S = .ok true S ∧ e env2 S = .ok (h x) S' ∧ P S') :
    ∃ S', lcN (.fix ds) g t e env0 xs.length 0 [] S = .ok (xs.map h) S' ∧ P S' := by
  subst hds
  have key : ∀ (k i : Nat) (acc : List D) (S : Sto), k + i = xs.length → acc.length = i → P S → ∃ S', lcN (.fix (xs.map toD)) g t e env0 k i acc S = .ok (acc ++ (xs.drop i).map h) S' ∧ P S' := by
    intro k
    induction k with
    | zero =>
      intro i acc S hk ha hp
      have hc : (Src.fix (xs.map toD)).cur S i = .stop := by
        show Cur.of (xs.map toD)[i]? = _
        rw [List.getElem?_eq_none (by rw [List.length_map]; omega)]
        rfl
      refine ⟨S, ?_, hp⟩
      rw [List.drop_eq_nil_of_le (by omega)]
      simp [lcN, hc]
    | succ k ih =>
      intro i acc S hk ha hp
      have hi : i < xs.length := by omega
      have hc : (Src.fix (xs.map toD)).cur S i = .it (toD xs[i]) := by
        show Cur.of (xs.map toD)[i]? = _
        rw [List.getElem?_map, List.getElem?_eq_getElem hi]
        rfl
      obtain ⟨env2, S', h1, h2, h3, h4⟩ := step xs[i] (List.getElem_mem hi) S hp
      obtain ⟨S2, e2, p2⟩ := ih (i + 1) (acc ++ [h xs[i]]) S' (by omega) (by simp; omega) h4
      have hA : acc.length < LIM := by omega
      refine ⟨S2, ?_, p2⟩
      rw [List.drop_eq_getElem_cons hi, List.map_cons]
      simp [lcN, hc, h1, h2, h3, hA, e2, Res.nox]
  obtain ⟨S', e1, p1⟩ := key xs.length 0 [] S (by omega) rfl h0
  exact ⟨S', by simpa using e1, p1⟩
/-! ### distinct keys -/
def dks (l : List Int) : List Int := l.foldl (fun ks z => if z ∈ ks then ks else ks ++ [z]) []
theorem dks_snoc (l : List Int) (z : Int) : dks (l ++ [z]) = if z ∈ dks l then dks l else dks l ++ [z] := by
  unfold dks
  rw [List.foldl_append]
  rfl
theorem mem_dks : ∀ (n : Nat) (l : List Int), l.length = n → ∀ z, z ∈ dks l ↔ z ∈ l
  | 0, l, h, z => by rw [List.length_eq_zero_iff.mp h]; rfl
  | n + 1, l, h, z => by
    rcases List.eq_nil_or_concat l with e | ⟨t, v, e⟩
    · rw [e] at h; cases h
    · have e : l = t ++ [v] := by rw [e]; simp
      subst e
      have ih := mem_dks n t (by simpa using h)
      rw [dks_snoc]
      by_cases hv : v ∈ dks t
      · rw [if_pos hv, ih z, List.mem_append, List.mem_singleton]
        exact ⟨.inl, fun h => h.elim id fun e => e ▸ (ih v).mp hv⟩
      · rw [if_neg hv, List.mem_append, List.mem_append, ih z]
theorem dks_nodup : ∀ (n : Nat) (l : List Int), l.length = n → (dks l).Nodup
  | 0, l, h => by rw [List.length_eq_zero_iff.mp h]; simp [dks]
  | n + 1, l, h => by
    rcases List.eq_nil_or_concat l with e | ⟨t, v, e⟩
    · rw [e] at h; cases h
    · have e : l = t ++ [v] := by rw [e]; simp
      subst e
      have ih := dks_nodup n t (by simpa using h)
      rw [dks_snoc]
      split
      · exact ih
      · rename_i hv
        exact List.nodup_append.mpr ⟨ih, by simp, fun a ha b hb e => by
          rw [List.mem_singleton.mp hb] at e
          exact hv (e ▸ ha)⟩
theorem dks_two {l : List Int} : 1 < (dks l).length ↔ ∃ x ∈ l, ∃ y ∈ l, x ≠ y := by
  have hm := mem_dks _ l rfl
  have hn := dks_nodup _ l rfl
  constructor
  · intro h
    cases e : dks l with
    | nil => rw [e] at h; simp at h
    | cons x r =>
      cases r with
      | nil => rw [e] at h; simp at h
      | cons y r =>
        rw [e] at hn
        refine ⟨x, (hm x).mp (by rw [e]; simp), y, (hm y).mp (by rw [e]; simp), fun z => ?_⟩
        subst z
        simp at hn
  · rintro ⟨x, hx, y, hy, hne⟩
    refine Classical.byContradiction fun h => ?_
    have hx' := (hm x).mpr hx
    have hy' := (hm y).mpr hy
    cases e : dks l with
    | nil => rw [e] at hx'; exact nomatch hx'
    | cons z r =>
      cases r with
      | nil =>
        rw [e] at hx' hy'
        exact hne ((List.mem_singleton.mp hx').trans (List.mem_singleton.mp hy').symm)
      | cons w r => rw [e] at h; simp at h
theorem dc_map {α : Type} {g : DGn} {t : DTn} {k v : DEn} {env0 : Env} {xs : List α} {ds : List D} {S : Sto} (toD : α → D) (h : α → Int) (hds : ds = xs.map toD) (hz : xs.length ≤ 100000)
    (step : ∀ x ∈ xs, ∃ env2 d, g (toD x) env0 S = .nx env2 S ∧ t env2 S = .ok true S ∧ k env2 S = .ok (.int (h x)) S ∧ v env2 S = .ok d S) :
    dcN (.fix ds) g t k v env0 xs.length 0 [] S = .ok (dks (xs.map h)) S := by
  subst hds
  have key : ∀ (m i : Nat), m + i = xs.length → dcN (.fix (xs.map toD)) g t k v env0 m i (dks ((xs.take i).map h)) S = .ok (dks (xs.map h)) S := by
    intro m
    induction m with
    | zero =>
      intro i hi
      have hc : (Src.fix (xs.map toD)).cur S i = .stop := by
        show Cur.of (xs.map toD)[i]? = _
        rw [List.getElem?_eq_none (by rw [List.length_map]; omega)]
        rfl
      rw [List.take_of_length_le (by omega)]
      simp [dcN, hc]
    | succ m ih =>
      intro i hi
      have hl : i < xs.length := by omega
      have hc : (Src.fix (xs.map toD)).cur S i = .it (toD xs[i]) := by
        show Cur.of (xs.map toD)[i]? = _
        rw [List.getElem?_map, List.getElem?_eq_getElem hl]
        rfl
      obtain ⟨env2, d, h1, h2, h3, h4⟩ := step xs[i] (List.getElem_mem hl)
      have hlen : ∀ l : List Int, (dks l).length ≤ l.length := fun l => by
        have key2 : ∀ (n : Nat) (l : List Int), l.length = n → (dks l).length ≤ n := by
          intro n
          induction n with
          | zero => intro l h; rw [List.length_eq_zero_iff.mp h]; simp [dks]
          | succ n ih =>
            intro l h
            rcases List.eq_nil_or_concat l with e | ⟨t, v, e⟩
            · rw [e] at h; cases h
            · have e : l = t ++ [v] := by rw [e]; simp
              subst e
              have := ih t (by simpa using h)
              rw [dks_snoc]
              split
              · omega
              · simp; omega
        exact key2 _ l rfl
      have hA : (dks ((xs.take i).map h)).length < LIM := by
        have := hlen ((xs.take i).map h)
        rw [List.length_map, List.length_take] at this
        show _ < 16777216
        omega
      have ht : (xs.take (i + 1)).map h = (xs.take i).map h ++ [h xs[i]] := by
        rw [List.take_add_one, List.getElem?_eq_getElem hl, List.map_append]
        rfl
      have := ih (i + 1) (by omega)
      rw [ht, dks_snoc] at this
      simp only [dcN, hc, h1, h2, h3, h4, nox_ok, bind_ok, if_true, if_pos hA]
      exact this
  have := key xs.length 0 (by omega)
  simpa [dks] using this
/-! ### the least of rows of numbers -/
def minT (t : List Int) (T : List (List Int)) : List Int := T.foldl (fun m e => if ltI e m = true then e else m) t
theorem minT_mem : ∀ (T : List (List Int)) (t : List Int), minT t T ∈ t :: T ∧ ∀ x ∈ t :: T, ltI x (minT t T) = false
  | [], t => ⟨by simp [minT], fun x hx => by rw [List.mem_singleton.mp hx]; exact ltI_irr t⟩
  | u :: T, t => by
    have ih := minT_mem T (if ltI u t = true then u else t)
    have e : minT t (u :: T) = minT (if ltI u t = true then u else t) T := rfl
    rw [e]
    refine ⟨?_, fun x hx => ?_⟩
    · rcases List.mem_cons.mp ih.1 with h | h
      · rw [h]
        split <;> simp
      · exact List.mem_cons_of_mem _ (List.mem_cons_of_mem _ h)
    · have h2 := ih.2 (if ltI u t = true then u else t) (List.mem_cons_self ..)
      have step : ∀ y, ltI y (minT (if ltI u t = true then u else t) T) = true → ltI (if ltI u t = true then u else t) (minT (if ltI u t = true then u else t) T) = false → ltI y (if ltI u t = true then u else t) = true := fun y h1 h2 => by
        rcases ltI_tot (if ltI u t = true then u else t) (minT (if ltI u t = true then u else t) T) with z | z | z
        · rw [← z] at h1; exact h1
        · rw [h2] at z; cases z
        · exact ltI_trans _ _ _ h1 z
      cases hz : ltI x (minT (if ltI u t = true then u else t) T) with
      | false => rfl
      | true =>
        have h3 := step x hz h2
        rcases List.mem_cons.mp hx with rfl | hx
        · split at h3
          · rename_i hu
            rw [ltI_asym _ _ hu] at h3
            cases h3
          · rw [ltI_irr] at h3; cases h3
        · rcases List.mem_cons.mp hx with rfl | hx
          · split at h3
            · rw [ltI_irr] at h3; cases h3
            · rename_i hu
              exact absurd h3 hu
          · rw [ih.2 x (List.mem_cons_of_mem _ hx)] at hz
            cases hz
end M
end

section
set_option linter.all false
set_option maxRecDepth 100000
set_option maxHeartbeats 2000000
set_option autoImplicit false
/-! results of polls: the theory -/
namespace Q
open DL M
open PySem (PyData)
open PySem.W (dataLe dataLt)
def dv (a b : Int) (k : Nat) : Int := a + b * k
def whl (a b : Int) : Nat → Int
  | 0 => 1
  | k + 1 => whl a b k * max 1 (dv a b k)
theorem whl_pos (a b : Int) : ∀ k, 0 < whl a b k
  | 0 => by simp [whl]
  | k + 1 => Int.mul_pos (whl_pos a b k) (by omega)
theorem dv_le {a b : Int} (h0 : 0 ≤ a) (h0' : a ≤ 9) (h1 : 0 ≤ b) (h2 : b ≤ 9) (i : Nat) (hi : i ≤ 100) : dv a b i ≤ 909 := by
  unfold dv
  have : b * (i : Int) ≤ 9 * 100 := Int.mul_le_mul h2 (by omega) (by omega) (by omega)
  omega
theorem dv_nn {a b : Int} (h0 : 0 ≤ a) (h1 : 0 ≤ b) (i : Nat) : 0 ≤ dv a b i := by
  unfold dv
  have : 0 ≤ b * (i : Int) := Int.mul_nonneg h1 (by omega)
  omega
theorem dv_lt {a b : Int} (h1 : 1 ≤ b) {i j : Nat} (h : i < j) : dv a b i < dv a b j := by
  unfold dv
  have : b * (i : Int) < b * (j : Int) := Int.mul_lt_mul_of_pos_left (by omega) (by omega)
  omega
theorem dv_pos {a b : Int} (h0 : 0 ≤ a) (h1 : 1 ≤ b) {i : Nat} (h : 0 < a ∨ 0 < i) : 0 < dv a b i := by
  rcases h with h | h
  · have := dv_nn (a := 0) (b := b) (Int.le_refl _) (by omega) i
    unfold dv at this ⊢
    omega
  · have := dv_lt (a := a) h1 h
    have := dv_nn h0 (by omega : 0 ≤ b) 0
    omega
theorem whl_dvd (a b : Int) : ∀ (s k : Nat), k < s → 0 < dv a b k → dv a b k ∣ whl a b s
  | 0, k, h, _ => by omega
  | s + 1, k, h, hp => by
    unfold whl
    by_cases e : k = s
    · subst e
      rw [Int.max_eq_right (by omega)]
      exact Int.dvd_mul_left _ _
    · exact Int.dvd_trans (whl_dvd a b s k (by omega) hp) (Int.dvd_mul_right _ _)
def wt (a b W own : Int) (k : Nat) : Int := if 0 < dv a b k then own * W / dv a b k else 10000 * W
theorem max_ii (S : Sto) (i j : Int) : fMax [.int i, .int j] S = .ok (.int (max i j)) S := by
  show Res.ok (D.int (if j > i then j else i)) S = _
  congr 2
  omega
theorem min_ii (S : Sto) (i j : Int) : fMin [.int i, .int j] S = .ok (.int (min i j)) S := by
  show Res.ok (D.int (if j < i then j else i)) S = _
  congr 2
  omega
/-- which seats of which parties are claimed -/
def KLf (s : Nat) : Nat → List Int → List (Int × Nat)
  | _, [] => []
  | i, v :: vs => (if 0 < v then (List.range s).map fun k => ((i : Int), k) else []) ++ KLf s (i + 1) vs
theorem KLf_app (s : Nat) : ∀ (xs ys : List Int) (i : Nat), KLf s i (xs ++ ys) = KLf s i xs ++ KLf s (i + xs.length) ys
  | [], ys, i => by simp [KLf]
  | x :: xs, ys, i => by
    simp only [List.cons_append, KLf, KLf_app s xs ys (i + 1), List.append_assoc, List.length_cons]
    rw [show i + 1 + xs.length = i + (xs.length + 1) by omega]
theorem KLf_len (s : Nat) : ∀ (xs : List Int) (i : Nat), (KLf s i xs).length ≤ xs.length * s
  | [], i => by simp [KLf]
  | x :: xs, i => by
    have := KLf_len s xs (i + 1)
    simp only [KLf, List.length_append, List.length_cons]
    rw [Nat.succ_mul]
    split
    · simp; omega
    · simp; omega
abbrev KL (vs : List Int) (s : Nat) : List (Int × Nat) := KLf s 0 vs
def vAt (vs : List Int) (p : Int) : Int := vs.getD p.toNat 0
def cD (W : Int × Nat → Int) (z : Int × Nat) : D := .tup [.int (W z), .int z.1]
abbrev Wp (a b : Int) (vs : List Int) (s : Nat) : Int × Nat → Int := fun z => wt a b (whl a b (s + 1)) (vAt vs z.1) z.2
theorem KLf_mem {s : Nat} : ∀ {xs : List Int} {i : Nat} {z : Int × Nat}, z ∈ KLf s i xs ↔ ∃ p : Nat, z.1 = ((i + p : Nat) : Int) ∧ p < xs.length ∧ 0 < xs.getD p 0 ∧ z.2 < s
  | [], i, z => by simp [KLf]
  | x :: xs, i, z => by
    simp only [KLf, List.mem_append, KLf_mem]
    constructor
    · rintro (h | ⟨p, h1, h2, h3, h4⟩)
      · by_cases hx : 0 < x
        · rw [if_pos hx] at h
          obtain ⟨k, hk, rfl⟩ := List.mem_map.mp h
          exact ⟨0, by simp, by simp, by simpa using hx, by simpa using hk⟩
        · rw [if_neg hx] at h
          cases h
      · exact ⟨p + 1, by rw [h1]; congr 1; omega, by simpa using h2, by simpa using h3, h4⟩
    · rintro ⟨p, h1, h2, h3, h4⟩
      cases p with
      | zero =>
        left
        have hx : 0 < x := by simpa using h3
        rw [if_pos hx]
        exact List.mem_map.mpr ⟨z.2, List.mem_range.mpr h4, by
          obtain ⟨z1, z2⟩ := z
          simp at h1 ⊢
          exact h1.symm⟩
      | succ p => exact .inr ⟨p, by rw [h1]; congr 1; omega, by simpa using h2, by simpa using h3, h4⟩
theorem place_count {α : Type} (w : α → Int) : ∀ (L : List α) (i : Nat) (x : α), L.Pairwise (fun a b => w b ≤ w a) → L[i]? = some x → L.countP (fun y => decide (w x < w y)) ≤ i ∧ i < L.countP (fun y => decide (w x ≤ w y))
  | [], i, x, _, h => by simp at h
  | a :: L, 0, x, hp, h => by
    simp at h
    subst h
    obtain ⟨h1, h2⟩ := List.pairwise_cons.mp hp
    refine ⟨?_, ?_⟩
    · have : (a :: L).countP (fun y => decide (w a < w y)) = 0 := by
        rw [List.countP_eq_zero]
        intro y hy
        rcases List.mem_cons.mp hy with rfl | hy
        · simp
        · have := h1 y hy
          simp
          omega
      omega
    · rw [List.countP_cons]
      simp
  | a :: L, i + 1, x, hp, h => by
    obtain ⟨h1, h2⟩ := List.pairwise_cons.mp hp
    have h : L[i]? = some x := by simpa using h
    obtain ⟨k1, k2⟩ := place_count w L i x h2 h
    have ha := h1 x (List.mem_of_getElem? h)
    rw [List.countP_cons, List.countP_cons]
    have : decide (w x ≤ w a) = true := by simpa using ha
    rw [this]
    refine ⟨?_, by simp; omega⟩
    split <;> omega
/-- such a mark is one alone -/
theorem place_one {α : Type} (w : α → Int) (K : List α) (i : Nat) (x y : α) (hx : K.countP (fun z => decide (w x < w z)) ≤ i ∧ i < K.countP (fun z => decide (w x ≤ w z))) (hy : K.countP (fun z => decide (w y < w z)) ≤ i ∧ i < K.countP (fun z => decide (w y ≤ w z))) : w x = w y := by
  rcases Int.lt_trichotomy (w x) (w y) with h | h | h
  · have : K.countP (fun z => decide (w y ≤ w z)) ≤ K.countP (fun z => decide (w x < w z)) := List.countP_mono_left fun z _ hz => by
      simp at hz ⊢
      omega
    omega
  · exact h
  · have : K.countP (fun z => decide (w x ≤ w z)) ≤ K.countP (fun z => decide (w y < w z)) := List.countP_mono_left fun z _ hz => by
      simp at hz ⊢
      omega
    omega
theorem enc_cD (W : Int × Nat → Int) (z : Int × Nat) : encD (cD W z) = .tuple [.int (W z), .int z.1] := rfl
theorem sortB_cD (W : Int × Nat → Int) (xs : List (Int × Nat)) : sortB (xs.map (cD W)) = true := by
  have e : ∀ z, py0 (cD W z) = some (.tuple [.int (W z), .int z.1]) := fun z => rfl
  simp [sortB, alikeB, List.all_map, e, enc_cD, tupN, PyData.depth, PyData.depthAll]
  intro a b _ c d _
  simp [PySem.W.alike, PySem.W.alikeAll]
/-- the place i of the claims in falling order -/
theorem falls (W : Int × Nat → Int) (xs : List (Int × Nat)) (i : Nat) (hi : i < xs.length) : ∃ x, x ∈ xs ∧ (sortD true (xs.map (cD W)))[i]? = some (cD W x) ∧ xs.countP (fun z => decide (W x < W z)) ≤ i ∧ i < xs.countP (fun z => decide (W x ≤ W z)) := by
  have e : sortD true (xs.map (cD W)) = (xs.mergeSort (fun a b => dataLe true encD (cD W a) (cD W b))).map (cD W) := (PySem.W.sort_maps (cD W) fun a _ b _ => rfl).symm
  have hle : ∀ a b, dataLe true encD (cD W a) (cD W b) = !dataLt (.tuple [.int (W a), .int a.1]) (.tuple [.int (W b), .int b.1]) := fun a b => rfl
  have hp : (xs.mergeSort (fun a b => dataLe true encD (cD W a) (cD W b))).Perm xs := List.mergeSort_perm _ _
  have hl : i < (xs.mergeSort (fun a b => dataLe true encD (cD W a) (cD W b))).length := by rw [hp.length_eq]; exact hi
  have hs : (xs.mergeSort (fun a b => dataLe true encD (cD W a) (cD W b))).Pairwise (fun a b => W b ≤ W a) := by
    have := PySem.W.sort_pairwise (le := fun a b => dataLe true encD (cD W a) (cD W b)) ⟨fun a b c h1 h2 => ?_, fun a b => ?_⟩ xs
    · refine this.imp fun {a b} h => ?_
      simp only [hle, PySem.W.dataLt_ii] at h
      simp at h
      omega
    · simp only [hle, PySem.W.dataLt_ii] at h1 h2 ⊢
      simp at h1 h2 ⊢
      omega
    · simp only [hle, PySem.W.dataLt_ii]
      simp
      omega
  generalize hL : xs.mergeSort (fun a b => dataLe true encD (cD W a) (cD W b)) = L at *
  have hg : L[i]? = some (L[i]'hl) := List.getElem?_eq_getElem hl
  obtain ⟨h1, h2⟩ := place_count W L i _ hs hg
  refine ⟨L[i]'hl, hp.subset (List.getElem_mem _), ?_, ?_, ?_⟩
  · rw [e, List.getElem?_map, hg]
    rfl
  · rwa [← hp.countP_eq]
  · rwa [← hp.countP_eq]
/-! per party -/
theorem KLf_count (s : Nat) (f : Int × Nat → Bool) : ∀ (xs : List Int) (i : Nat), (KLf s i xs).countP f = fsum xs.length fun p => if 0 < xs.getD p 0 then (List.range s).countP fun k => f (((i + p : Nat) : Int), k) else 0
  | [], i => by simp [KLf]
  | x :: xs, i => by
    have ih := KLf_count s f xs (i + 1)
    simp only [KLf, List.countP_append, List.length_cons, fsum_succ', ih]
    congr 1
    · by_cases hx : 0 < x
      · simp [hx, List.countP_map, Function.comp_def]
      · simp [hx]
    · refine fsum_congr fun p _ => ?_
      simp only [List.getD_cons_succ]
      rw [show i + 1 + p = i + (p + 1) by omega]
/-- the claims above m that are party p's -/
def cnt (W : Int × Nat → Int) (m : Int) (p : Nat) (L : List (Int × Nat)) : Nat := L.countP fun z => decide (z.1 = (p : Int)) && decide (m < W z)
theorem fsum_one {n p : Nat} (c : Nat) (hp : p < n) : fsum n (fun q => if q = p then c else 0) = c := by
  induction n with
  | zero => omega
  | succ n ih =>
    rw [fsum_succ]
    by_cases e : n = p
    · subst e
      rw [if_pos rfl]
      have : fsum n (fun q => if q = n then c else 0) = fsum n (fun _ => 0) := fsum_congr fun q hq => if_neg (by omega)
      have z : ∀ n, fsum n (fun _ => 0) = 0 := fun n => by
        induction n with
        | zero => rfl
        | succ n ih => rw [fsum_succ, ih]
      rw [this, z]
      omega
    · rw [if_neg e, ih (by omega)]
      omega
section
variable (vs : List Int) (s : Nat) (W : Int × Nat → Int) (m : Int)
abbrev vB (vs : List Int) : Nat → Bool := fun p => decide (0 < vs.getD p 0)
abbrev wB (W : Int × Nat → Int) : Nat → Nat → Int := fun p k => W ((p : Int), k)
theorem cnt_sur {p : Nat} (hp : p < vs.length) : cnt W m p (KL vs s) = sur s (vB vs) (wB W) m p := by
  unfold cnt
  rw [KLf_count]
  have : (fsum vs.length fun q => if 0 < vs.getD q 0 then (List.range s).countP fun k => decide ((((0 + q : Nat) : Int), k).1 = (p : Int)) && decide (m < W (((0 + q : Nat) : Int), k)) else 0) = fsum vs.length fun q => if q = p then sur s (vB vs) (wB W) m p else 0 := by
    refine fsum_congr fun q hq => ?_
    by_cases e : q = p
    · subst e
      rw [if_pos rfl]
      unfold sur cab
      by_cases hv : 0 < vs.getD q 0
      · simp [hv]
      · simp [hv]
    · rw [if_neg e]
      by_cases hv : 0 < vs.getD q 0
      · rw [if_pos hv]
        rw [List.countP_eq_zero]
        intro k _
        simp
        intro h
        omega
      · rw [if_neg hv]
  rw [this, fsum_one _ hp]
theorem all_above : ((KL vs s).countP fun z => decide (m < W z)) = fsum vs.length (sur s (vB vs) (wB W) m) := by
  rw [KLf_count]
  refine fsum_congr fun q hq => ?_
  unfold sur cab
  by_cases hv : 0 < vs.getD q 0
  · simp [hv]
  · simp [hv]
theorem all_ge (hd : ∀ p < vs.length, vB vs p = true → ∀ i j, i < j → j ≤ s → wB W p j < wB W p i) : ((KL vs s).countP fun z => decide (m ≤ W z)) = fsum vs.length fun p => sur s (vB vs) (wB W) m p + (if tie s (vB vs) (wB W) m p = true then 1 else 0) := by
  rw [KLf_count]
  refine fsum_congr fun q hq => ?_
  by_cases hv : 0 < vs.getD q 0
  · have h := cge_tie (hd q hq (by simp only [vB, hv, decide_true])) (s := s) (m := m)
    unfold cge at h
    rw [if_pos hv]
    have e1 : sur s (vB vs) (wB W) m q = cab (wB W q) s m := by unfold sur; rw [if_pos (by simp only [vB, hv, decide_true])]
    have e2 : (tie s (vB vs) (wB W) m q = true) ↔ (cab (wB W q) s m < s ∧ wB W q (cab (wB W q) s m) = m) := by
      unfold tie
      simp only [vB, hv, decide_true, Bool.true_and, Bool.and_eq_true, decide_eq_true_eq]
    rw [e1]
    simp only [Nat.zero_add]
    rw [show ((List.range s).countP fun k => decide (m ≤ W ((q : Int), k))) = (List.range s).countP fun k => decide (m ≤ wB W q k) from rfl, h]
    by_cases z : tie s (vB vs) (wB W) m q = true
    · rw [if_pos z, if_pos (e2.mp z)]
    · rw [if_neg z, if_neg (fun y => z (e2.mpr y))]
  · rw [if_neg hv]
    unfold sur tie
    simp only [vB, hv, decide_false, Bool.false_and]
    simp
end
/-- the claims at m: their parties -/
def tyL (W : Int × Nat → Int) (m : Int) (L : List (Int × Nat)) : List Int := (L.filter fun z => decide (W z = m)).map (·.1)
theorem map_const {α β : Type} (l : List α) (b : β) : (l.map fun _ => b) = List.replicate l.length b := by
  induction l with
  | nil => rfl
  | cons a l ih => simp [ih, List.replicate_succ]
theorem count_eq (w : Nat → Int) (m : Int) (l : List Nat) : (l.countP fun k => decide (m ≤ w k)) = (l.countP fun k => decide (m < w k)) + (l.filter fun k => decide (w k = m)).length := by
  induction l with
  | nil => rfl
  | cons k l ih =>
    rw [List.countP_cons, List.countP_cons, List.filter_cons]
    by_cases h1 : m < w k
    · have h2 : m ≤ w k := by omega
      have h3 : ¬ w k = m := by omega
      simp [h1, h2, h3]
      omega
    · by_cases h3 : w k = m
      · have h2 : m ≤ w k := by omega
        simp [h1, h2, h3]
        omega
      · have h2 : ¬ m ≤ w k := by omega
        simp [h1, h2, h3]
        omega
theorem tyf (s : Nat) (W : Int × Nat → Int) (m : Int) : ∀ (xs : List Int) (i : Nat), (∀ p < xs.length, 0 < xs.getD p 0 → ∀ j k, j < k → k ≤ s → W (((i + p : Nat) : Int), k) < W (((i + p : Nat) : Int), j)) →
    tyL W m (KLf s i xs) = ((List.range xs.length).filter fun p => decide (0 < xs.getD p 0) && (decide (cab (fun k => W (((i + p : Nat) : Int), k)) s m < s) && decide (W (((i + p : Nat) : Int), cab (fun k => W (((i + p : Nat) : Int), k)) s m) = m))).map fun p => ((i + p : Nat) : Int)
  | [], i, _ => by simp [KLf, tyL]
  | x :: xs, i, hd => by
    have ih := tyf s W m xs (i + 1) fun p hp hv j k hjk hks => by
      have := hd (p + 1) (by simpa using hp) (by simpa using hv) j k hjk hks
      rwa [show i + (p + 1) = i + 1 + p by omega] at this
    simp only [tyL] at ih ⊢
    simp only [KLf, List.filter_append, List.map_append, ih, List.length_cons, List.range_succ_eq_map, List.filter_cons, List.filter_map, List.map_map]
    have e2 : ∀ p : Nat, i + 1 + p = i + (p + 1) := fun p => by omega
    have tail : (((List.range xs.length).filter fun p => decide (0 < xs.getD p 0) && (decide (cab (fun k => W (((i + 1 + p : Nat) : Int), k)) s m < s) && decide (W (((i + 1 + p : Nat) : Int), cab (fun k => W (((i + 1 + p : Nat) : Int), k)) s m) = m))).map fun p => ((i + 1 + p : Nat) : Int)) =
        ((List.range xs.length).filter ((fun p => decide (0 < (x :: xs).getD p 0) && (decide (cab (fun k => W (((i + p : Nat) : Int), k)) s m < s) && decide (W (((i + p : Nat) : Int), cab (fun k => W (((i + p : Nat) : Int), k)) s m) = m))) ∘ Nat.succ)).map ((fun p => ((i + p : Nat) : Int)) ∘ Nat.succ) := by
      simp only [Function.comp_def, Nat.succ_eq_add_one, List.getD_cons_succ, e2]
    rw [tail]
    by_cases hx : 0 < x
    · have hd0 := hd 0 (by simp) (by simpa using hx)
      simp only [Nat.add_zero] at hd0
      have hc := cge_tie (w := fun k => W ((i : Int), k)) hd0 (s := s) (m := m)
      have hq := count_eq (fun k => W ((i : Int), k)) m (List.range s)
      have hlen : ((List.range s).filter fun k => decide (W ((i : Int), k) = m)).length = if cab (fun k => W ((i : Int), k)) s m < s ∧ W ((i : Int), cab (fun k => W ((i : Int), k)) s m) = m then 1 else 0 := by
        unfold cge at hc
        rw [hq] at hc
        have : cab (fun k => W ((i : Int), k)) s m = (List.range s).countP fun k => decide (m < W ((i : Int), k)) := rfl
        omega
      have e3 : (((List.range s).map fun k => ((i : Int), k)).filter fun z => decide (W z = m)).map (·.1) = List.replicate (if cab (fun k => W ((i : Int), k)) s m < s ∧ W ((i : Int), cab (fun k => W ((i : Int), k)) s m) = m then 1 else 0) (i : Int) := by
        rw [List.filter_map, List.map_map, ← hlen]
        exact map_const _ _
      rw [if_pos hx, e3]
      simp only [List.getD_cons_zero, hx, decide_true, Bool.true_and, Nat.add_zero]
      by_cases z : cab (fun k => W ((i : Int), k)) s m < s ∧ W ((i : Int), cab (fun k => W ((i : Int), k)) s m) = m
      · rw [if_pos z, if_pos (by simp [z.1, z.2])]
        simp
      · rw [if_neg z, if_neg (by simpa using z)]
        simp
    · rw [if_neg hx]
      simp only [List.getD_cons_zero, hx, decide_false, Bool.false_and]
      simp
theorem ty_ok (vs : List Int) (s : Nat) (W : Int × Nat → Int) (m : Int) (hd : ∀ p < vs.length, vB vs p = true → ∀ i j, i < j → j ≤ s → wB W p j < wB W p i) :
    tyL W m (KL vs s) = ((List.range vs.length).filter (tie s (vB vs) (wB W) m)).map fun p => ((p : Nat) : Int) := by
  have := tyf s W m vs 0 fun p hp hv j k hjk hks => by
    rw [Nat.zero_add]
    exact hd p hp (by simpa using hv) j k hjk hks
  rw [this]
  simp only [Nat.zero_add]
  congr 1
  refine List.filter_congr fun p _ => ?_
  unfold tie
  rw [Bool.and_assoc]
section
variable (S : Sto) (A B C : Cell)
theorem g2a : (S ++ [A, B])[S.length]? = some A := by simp
theorem g2b : (S ++ [A, B])[S.length + 1]? = some B := by simp
theorem s2b : (S ++ [A, B]).set (S.length + 1) C = S ++ [A, C] := by simp [List.set_append]
theorem g3a : (S ++ [A, B, C])[S.length]? = some A := by simp
theorem g3b : (S ++ [A, B, C])[S.length + 1]? = some B := by simp
theorem g3c : (S ++ [A, B, C])[S.length + 2]? = some C := by simp
end
theorem app3 (S : Sto) (A B : Cell) (ds : List D) (y : D) (h : ds.length < LIM) : fAppend (.cel (S.length + 2)) [y] (S ++ [A, B, .lst ds]) = .ok .non (S ++ [A, B, .lst (ds ++ [y])]) := by
  rw [append_cel (g3c _ _ _ _) h]
  simp [List.set_append]
theorem app2 (S : Sto) (A : Cell) (ds : List D) (y : D) (h : ds.length < LIM) : fAppend (.cel (S.length + 1)) [y] (S ++ [A, .lst ds]) = .ok .non (S ++ [A, .lst (ds ++ [y])]) := by
  rw [append_cel (g2b _ _ _) h]
  simp [List.set_append]
theorem sorted_of {S : Sto} {rev : Bool} {x : D} {ds : List D} (h : listOf S x = some ds) (hb : sortB ds = true) : fSorted rev [x] S = .ok (sortD rev ds) S := by
  simp only [fSorted, h, hb, if_true]
/-- row of counts -/
def rowN (n : Nat) (f : Nat → Nat) : List D := (List.range n).map fun p => .int (f p : Nat)
/-- one table: what is sure, and one more for those of a row -/
def tabI (n : Nat) (f : Nat → Nat) (row : List Nat) : List Int := (List.range n).map fun p => ((f p : Nat) : Int) + if p ∈ row then 1 else 0
/-- all tables that the mark lets -/
def Rtabs (n s : Nat) (v : Nat → Bool) (w : Nat → Nat → Int) (m : Int) : List (List Int) := (combos ((List.range n).filter (tie s v w m)) (s - fsum n (sur s v w m))).map (tabI n (sur s v w m))
section
variable {a b : Int} {s : Nat}
theorem wt_eq {k : Nat} (hk : k ≤ s) (hp : 0 < dv a b k) (u : Int) : ∃ q, 0 < q ∧ whl a b (s + 1) = dv a b k * q ∧ wt a b (whl a b (s + 1)) u k = u * q := by
  obtain ⟨q, hq⟩ := whl_dvd a b (s + 1) k (by omega) hp
  have hw := whl_pos a b (s + 1)
  refine ⟨q, ?_, hq, ?_⟩
  · rw [hq] at hw
    by_cases z : 0 < q
    · exact z
    · have := Int.mul_nonneg (show 0 ≤ dv a b k by omega) (show 0 ≤ -q by omega)
      rw [Int.mul_neg] at this
      omega
  · unfold wt
    rw [if_pos hp, hq, ← Int.mul_assoc, Int.mul_comm u, Int.mul_assoc, Int.mul_ediv_cancel_left _ (by omega)]
/-- claims beside claims -/
theorem wt_le (h0 : 0 ≤ a) (h1 : 1 ≤ b) {u v : Int} {k l : Nat} (hk : k ≤ s) (hl : l ≤ s) (hu : 0 < u) (hv : 0 < v) (bu : 0 < a ∨ u ≤ 9999) (bv : 0 < a ∨ v ≤ 9999) :
    wt a b (whl a b (s + 1)) u k ≤ wt a b (whl a b (s + 1)) v l ↔ u * dv a b l ≤ v * dv a b k := by
  have hw := whl_pos a b (s + 1)
  have zero : ∀ i, ¬ 0 < dv a b i → dv a b i = 0 ∧ a = 0 := fun i hi => by
    have := dv_nn h0 (by omega : 0 ≤ b) i
    refine ⟨by omega, ?_⟩
    by_cases ha : 0 < a
    · exact absurd (dv_pos h0 h1 (i := i) (.inl ha)) hi
    · omega
  by_cases pk : 0 < dv a b k
  · obtain ⟨q, q0, qw, qe⟩ := wt_eq (s := s) hk pk u
    by_cases pl : 0 < dv a b l
    · obtain ⟨r, r0, rw', re⟩ := wt_eq (s := s) hl pl v
      rw [qe, re]
      have e1 : u * q * (dv a b k * dv a b l) = u * dv a b l * whl a b (s + 1) := by
        rw [qw]
        simp [Int.mul_comm, Int.mul_left_comm, Int.mul_assoc]
      have e2 : v * r * (dv a b k * dv a b l) = v * dv a b k * whl a b (s + 1) := by
        rw [rw']
        simp [Int.mul_comm, Int.mul_left_comm, Int.mul_assoc]
      have hp : 0 < dv a b k * dv a b l := Int.mul_pos pk pl
      rw [← Int.mul_le_mul_right hp, e1, e2, Int.mul_le_mul_right hw]
    · obtain ⟨zl, za⟩ := zero l pl
      have hub : u ≤ 9999 := bu.resolve_left (by omega)
      rw [qe, zl]
      have : wt a b (whl a b (s + 1)) v l = 10000 * whl a b (s + 1) := by unfold wt; rw [if_neg pl]
      rw [this, Int.mul_zero]
      have hq : q ≤ whl a b (s + 1) := by
        rw [qw]
        have := Int.mul_le_mul_of_nonneg_right (show 1 ≤ dv a b k by omega) (show 0 ≤ q by omega)
        omega
      have h3 : u * q ≤ 10000 * q := Int.mul_le_mul_of_nonneg_right (by omega) (by omega)
      have h4 : 0 ≤ v * dv a b k := Int.mul_nonneg (by omega) (by omega)
      constructor
      · intro _; exact h4
      · intro _; omega
  · obtain ⟨zk, za⟩ := zero k pk
    have hvb : v ≤ 9999 := bv.resolve_left (by omega)
    have ek : wt a b (whl a b (s + 1)) u k = 10000 * whl a b (s + 1) := by unfold wt; rw [if_neg pk]
    rw [ek, zk, Int.mul_zero]
    by_cases pl : 0 < dv a b l
    · obtain ⟨r, r0, rw', re⟩ := wt_eq (s := s) hl pl v
      rw [re]
      have hr : r ≤ whl a b (s + 1) := by
        rw [rw']
        have := Int.mul_le_mul_of_nonneg_right (show 1 ≤ dv a b l by omega) (show 0 ≤ r by omega)
        omega
      have h3 : v * r ≤ 9999 * r := Int.mul_le_mul_of_nonneg_right (by omega) (by omega)
      have h4 : 0 < u * dv a b l := Int.mul_pos hu pl
      constructor
      · intro _; omega
      · intro _; omega
    · obtain ⟨zl, _⟩ := zero l pl
      have : wt a b (whl a b (s + 1)) v l = 10000 * whl a b (s + 1) := by unfold wt; rw [if_neg pl]
      rw [this, zl, Int.mul_zero]
      constructor <;> intro _ <;> omega
theorem wt_lt (h0 : 0 ≤ a) (h1 : 1 ≤ b) {u : Int} {k l : Nat} (hkl : k < l) (hl : l ≤ s) (hu : 0 < u) (bu : 0 < a ∨ u ≤ 9999) : wt a b (whl a b (s + 1)) u l < wt a b (whl a b (s + 1)) u k := by
  have h := wt_le (s := s) h0 h1 (k := k) (l := l) (by omega) hl hu hu bu bu
  have hd := dv_lt (a := a) h1 hkl
  have : ¬ u * dv a b l ≤ u * dv a b k := fun z => by
    have := Int.mul_lt_mul_of_pos_left hd hu
    omega
  rw [← h] at this
  omega
end
/-- a table is a result -/
def IsRes (vs : List Int) (s : Nat) (a b : Int) (t : List Int) : Prop := ∃ f : Nat → Nat, t = (List.range vs.length).map (fun p => ((f p : Nat) : Int)) ∧ fsum vs.length f = s ∧ (∀ p < vs.length, ¬ 0 < vs.getD p 0 → f p = 0) ∧
  ∀ i < vs.length, ∀ j < vs.length, 0 < f i → 0 < vs.getD j 0 → vs.getD j 0 * dv a b (f i - 1) ≤ vs.getD i 0 * dv a b (f j)
/-- votes of which results are told -/
structure VRes (vs : List Int) (s : Nat) (a b : Int) : Prop where
  l0 : 1 ≤ vs.length
  l1 : vs.length ≤ 6
  lo : ∀ v ∈ vs, 0 ≤ v
  hi : ∀ v ∈ vs, v ≤ 1000000000
  pos : ∃ v ∈ vs, 0 < v
  s0 : 1 ≤ s
  s1 : s ≤ 90
  a0 : 0 ≤ a
  a1 : a ≤ 9
  b0 : 1 ≤ b
  b1 : b ≤ 9
  bd : 0 < a ∨ ∀ v ∈ vs, v ≤ 9999
section
variable {vs : List Int} {s : Nat} {a b m : Int}
theorem getD_mem {p : Nat} (hp : p < vs.length) : vs.getD p 0 ∈ vs := by
  rw [List.getD_eq_getElem?_getD, List.getElem?_eq_getElem hp]
  exact List.getElem_mem hp
theorem VRes.bd1 (V : VRes vs s a b) {p : Nat} (hp : p < vs.length) : 0 < a ∨ vs.getD p 0 ≤ 9999 := V.bd.imp id fun h => h _ (getD_mem hp)
theorem wB_eq (p k : Nat) : wB (Wp a b vs s) p k = wt a b (whl a b (s + 1)) (vs.getD p 0) k := by
  simp only [wB, Wp, vAt, Int.toNat_natCast]
theorem VRes.dec (V : VRes vs s a b) : ∀ p < vs.length, vB vs p = true → ∀ i j, i < j → j ≤ s → wB (Wp a b vs s) p j < wB (Wp a b vs s) p i := fun p hp hv i j hij hj => by
  rw [wB_eq, wB_eq]
  exact wt_lt V.a0 V.b0 hij hj (of_decide_eq_true hv) (V.bd1 hp)
theorem KL_len (V : VRes vs s a b) : s ≤ (KL vs s).length := by
  obtain ⟨v, hv, h0⟩ := V.pos
  obtain ⟨p, hp, rfl⟩ := List.mem_iff_getElem.mp hv
  have h := KLf_count s (fun z => decide (z.1 = (p : Int))) vs 0
  have h2 : s ≤ (fsum vs.length fun q => if 0 < vs.getD q 0 then (List.range s).countP fun k => decide ((((0 + q : Nat) : Int), k).1 = (p : Int)) else 0) := by
    refine Nat.le_trans ?_ (fsum_ge hp)
    have e : vs.getD p 0 = vs[p] := by rw [List.getD_eq_getElem?_getD, List.getElem?_eq_getElem hp]; rfl
    rw [if_pos (by rw [e]; exact h0)]
    have : (List.range s).countP (fun k => decide ((((0 + p : Nat) : Int), k).1 = (p : Int))) = (List.range s).length := List.countP_eq_length.mpr fun k _ => by simp
    rw [this, List.length_range]
    exact Nat.le_refl _
  rw [← h] at h2
  exact Nat.le_trans h2 List.countP_le_length
theorem VRes.mark (V : VRes vs s a b) : ∃ m, Mrk vs.length s (vB vs) (wB (Wp a b vs s)) m ∧ ∃ t ∈ KL vs s, Wp a b vs s t = m := by
  have hl := KL_len V
  have hs := V.s0
  obtain ⟨x, hx, _, e2, e3⟩ := falls (Wp a b vs s) (KL vs s) (s - 1) (by omega)
  refine ⟨Wp a b vs s x, ⟨?_, ?_⟩, x, hx, rfl⟩
  · rw [← all_above]
    omega
  · rw [← all_ge vs s _ _ V.dec]
    omega
theorem fsum_in {n : Nat} {row : List Nat} (h : row.Sublist (List.range n)) : fsum n (fun p => if p ∈ row then 1 else 0) = row.length := by
  have e : ∀ n, fsum n (fun p => if p ∈ row then 1 else 0) = ((List.range n).filter fun p => decide (p ∈ row)).length := fun n => by
    induction n with
    | zero => rfl
    | succ n ih =>
      rw [fsum_succ, List.range_succ, List.filter_append, List.length_append, ih]
      by_cases z : n ∈ row <;> simp [z]
  rw [e]
  have hn : row.Nodup := h.nodup List.nodup_range
  refine List.Perm.length_eq ((List.perm_ext_iff_of_nodup (List.nodup_range.filter _) hn).mpr fun p => ?_)
  simp only [List.mem_filter, List.mem_range, decide_eq_true_eq]
  exact ⟨fun z => z.2, fun z => ⟨List.mem_range.mp (h.subset z), z⟩⟩
theorem Rtabs_mem {n : Nat} {v : Nat → Bool} {w : Nat → Nat → Int} {t : List Int} (hm : Mrk n s v w m) : t ∈ Rtabs n s v w m ↔ ∃ f : Nat → Nat, t = (List.range n).map (fun p => ((f p : Nat) : Int)) ∧ Tab n s v w m f := by
  have lo := hm.lo
  unfold Rtabs
  simp only [List.mem_map, mem_combos]
  constructor
  · rintro ⟨row, ⟨h1, h2⟩, rfl⟩
    have h3 : row.Sublist (List.range n) := h1.trans List.filter_sublist
    refine ⟨fun p => sur s v w m p + if p ∈ row then 1 else 0, ?_, ?_, fun p hp => ?_⟩
    · unfold tabI
      refine List.map_congr_left fun p _ => ?_
      by_cases z : p ∈ row <;> simp [z]
    · rw [fsum_add, fsum_in h3, h2]
      omega
    · by_cases z : p ∈ row
      · right
        simp only [if_pos z, true_and]
        have := h1.subset z
        exact (List.mem_filter.mp this).2
      · left
        simp only [if_neg z, Nat.add_zero]
  · rintro ⟨f, rfl, hf⟩
    have hmem : ∀ p < n, (p ∈ ((List.range n).filter (tie s v w m)).filter (fun p => decide (f p = sur s v w m p + 1)) ↔ f p = sur s v w m p + 1) := fun p hp => by
      simp only [List.mem_filter, List.mem_range, decide_eq_true_eq]
      refine ⟨fun z => z.2, fun z => ⟨⟨hp, ?_⟩, z⟩⟩
      rcases hf.ok p hp with e | e
      · omega
      · exact e.2
    have hfp : ∀ p < n, f p = sur s v w m p + if p ∈ ((List.range n).filter (tie s v w m)).filter (fun p => decide (f p = sur s v w m p + 1)) then 1 else 0 := fun p hp => by
      rcases hf.ok p hp with e | e
      · rw [if_neg (fun z => by have := (hmem p hp).mp z; omega)]
        omega
      · rw [if_pos ((hmem p hp).mpr e.1)]
        exact e.1
    refine ⟨((List.range n).filter (tie s v w m)).filter (fun p => decide (f p = sur s v w m p + 1)), ⟨List.filter_sublist, ?_⟩, ?_⟩
    · have h1 := hf.sum
      rw [fsum_congr hfp, fsum_add, fsum_in (List.filter_sublist.trans List.filter_sublist)] at h1
      omega
    · unfold tabI
      refine List.map_congr_left fun p hp => ?_
      have := hfp p (List.mem_range.mp hp)
      by_cases z : p ∈ ((List.range n).filter (tie s v w m)).filter (fun p => decide (f p = sur s v w m p + 1))
      · rw [if_pos z] at this ⊢
        omega
      · rw [if_neg z] at this ⊢
        omega
theorem Rtabs_nodup {n : Nat} {v : Nat → Bool} {w : Nat → Nat → Int} : (Rtabs n s v w m).Nodup := by
  unfold Rtabs
  have hty : ((List.range n).filter (tie s v w m)).Nodup := List.nodup_range.filter _
  refine (List.pairwise_map.mpr ?_)
  refine List.Pairwise.imp_of_mem (fun {x y} hx hy hxy e => hxy ?_) (combos_nodup (r := s - fsum n (sur s v w m)) hty)
  have sx := (mem_combos.mp hx).1.trans (List.filter_sublist (l := List.range n))
  have sy := (mem_combos.mp hy).1.trans (List.filter_sublist (l := List.range n))
  have px := List.pairwise_lt_range.sublist sx
  have py := List.pairwise_lt_range.sublist sy
  refine List.Perm.eq_of_pairwise (fun a b _ _ h1 h2 => by omega) px py ((List.perm_ext_iff_of_nodup (sx.nodup List.nodup_range) (sy.nodup List.nodup_range)).mpr fun p => ?_)
  have key : ∀ p < n, (p ∈ x ↔ p ∈ y) := fun p hp => by
    have := congrArg (fun l : List Int => l[p]?) e
    simp only [tabI, List.getElem?_map, List.getElem?_range hp, Option.map_some, Option.some.injEq] at this
    by_cases zx : p ∈ x <;> by_cases zy : p ∈ y <;> simp [zx, zy] at this ⊢ <;> omega
  exact ⟨fun h => (key p (List.mem_range.mp (sx.subset h))).mp h, fun h => (key p (List.mem_range.mp (sy.subset h))).mpr h⟩
theorem fle {n s : Nat} {f : Nat → Nat} (h : fsum n f = s) {p : Nat} (hp : p < n) : f p ≤ s := by
  rw [← h]
  exact fsum_ge hp
theorem isRes_iff (V : VRes vs s a b) (hm : Mrk vs.length s (vB vs) (wB (Wp a b vs s)) m) (t : List Int) : t ∈ Rtabs vs.length s (vB vs) (wB (Wp a b vs s)) m ↔ IsRes vs s a b t := by
  rw [Rtabs_mem hm]
  unfold IsRes
  refine exists_congr fun f => and_congr_right fun _ => ?_
  rw [← res_iff V.dec hm f]
  constructor
  · intro h
    refine ⟨h.sum, fun p hp hv => h.idle p hp (by simp only [vB, hv, decide_false]), fun i hi j hj fi vj => ?_⟩
    have vi : 0 < vs.getD i 0 := by
      by_cases z : 0 < vs.getD i 0
      · exact z
      · have := h.idle i hi (by simp only [vB, z, decide_false])
        omega
    have := h.ok i hi j hj fi (by simp only [vB, vj, decide_true])
    rw [wB_eq, wB_eq] at this
    have fi' := fle h.sum hi
    have fj' := fle h.sum hj
    exact (wt_le V.a0 V.b0 fj' (by omega) vj vi (V.bd1 hj) (V.bd1 hi)).mp this
  · rintro ⟨h1, h2, h3⟩
    refine ⟨h1, fun p hp hv => h2 p hp (of_decide_eq_false hv), fun i hi j hj fi vj => ?_⟩
    have vj := of_decide_eq_true vj
    have vi : 0 < vs.getD i 0 := by
      by_cases z : 0 < vs.getD i 0
      · exact z
      · have := h2 i hi z
        omega
    rw [wB_eq, wB_eq]
    have fi' := fle h1 hi
    have fj' := fle h1 hj
    exact (wt_le V.a0 V.b0 fj' (by omega) vj vi (V.bd1 hj) (V.bd1 hi)).mpr (h3 i hi j hj fi vj)
end
open Classical in
/-- the results, ascending -/
noncomputable def resT (vs : List Int) (s : Nat) (a b : Int) : List (List Int) := if h : ∃ T : List (List Int), Asc T ∧ ∀ t, t ∈ T ↔ IsRes vs s a b t then h.choose else []
section
variable {vs : List Int} {s : Nat} {a b m : Int}
theorem resT_eq {T : List (List Int)} (h1 : Asc T) (h2 : ∀ t, t ∈ T ↔ IsRes vs s a b t) : resT vs s a b = T := by
  have h : ∃ T : List (List Int), Asc T ∧ ∀ t, t ∈ T ↔ IsRes vs s a b t := ⟨T, h1, h2⟩
  unfold resT
  rw [dif_pos h]
  exact asc_eq h.choose_spec.1 h1 fun t => (h.choose_spec.2 t).trans (h2 t).symm
theorem VRes.resT (V : VRes vs s a b) : Asc (resT vs s a b) ∧ (∀ t, t ∈ Q.resT vs s a b ↔ IsRes vs s a b t) ∧ Q.resT vs s a b ≠ [] := by
  obtain ⟨m, hm, hx⟩ := V.mark
  have h1 : Asc (sortI (Rtabs vs.length s (vB vs) (wB (Wp a b vs s)) m)) := sortI_asc Rtabs_nodup
  have h2 : ∀ t, t ∈ sortI (Rtabs vs.length s (vB vs) (wB (Wp a b vs s)) m) ↔ IsRes vs s a b t := fun t => mem_sortI.trans (isRes_iff V hm t)
  have e := resT_eq h1 h2
  refine ⟨by rw [e]; exact h1, by rw [e]; exact h2, ?_⟩
  rw [e]
  intro z
  have hlen := congrArg List.length z
  rw [(sortI_perm _).length_eq] at hlen
  unfold Rtabs at hlen
  rw [List.length_map] at hlen
  -- a combination is there
  have lo := hm.lo
  have hi := hm.hi
  have e1 : (fsum vs.length fun p => sur s (vB vs) (wB (Wp a b vs s)) m p + (if tie s (vB vs) (wB (Wp a b vs s)) m p = true then 1 else 0)) = fsum vs.length (sur s (vB vs) (wB (Wp a b vs s)) m) + ((List.range vs.length).filter (tie s (vB vs) (wB (Wp a b vs s)) m)).length := by
    rw [fsum_add]
    congr 1
    have := fsum_in (n := vs.length) (row := (List.range vs.length).filter (tie s (vB vs) (wB (Wp a b vs s)) m)) List.filter_sublist
    rw [← this]
    refine fsum_congr fun p hp => ?_
    by_cases z : tie s (vB vs) (wB (Wp a b vs s)) m p = true
    · rw [if_pos z, if_pos (List.mem_filter.mpr ⟨List.mem_range.mpr hp, z⟩)]
    · rw [if_neg z, if_neg (fun y => z (List.mem_filter.mp y).2)]
  rw [e1] at hi
  have hmem : ((List.range vs.length).filter (tie s (vB vs) (wB (Wp a b vs s)) m)).take (s - fsum vs.length (sur s (vB vs) (wB (Wp a b vs s)) m)) ∈ combos ((List.range vs.length).filter (tie s (vB vs) (wB (Wp a b vs s)) m)) (s - fsum vs.length (sur s (vB vs) (wB (Wp a b vs s)) m)) :=
    mem_combos.mpr ⟨List.take_sublist _ _, by rw [List.length_take]; omega⟩
  have := List.length_pos_of_mem hmem
  simp only [List.length_nil] at hlen
  omega
end
section
variable {vs : List Int} {s : Nat} {a b : Int}
theorem resT_congr {vs' : List Int} {s' : Nat} {a' b' : Int} (h : ∀ t, IsRes vs s a b t ↔ IsRes vs' s' a' b' t) : resT vs s a b = resT vs' s' a' b' := by
  have e : IsRes vs s a b = IsRes vs' s' a' b' := funext fun t => propext (h t)
  unfold resT
  rw [e]
/-- alike rules -/
theorem isRes_alike {c d : Int} (hb : 0 < b) (hd : 0 < d) (h : a * d = c * b) (t : List Int) (ht : IsRes vs s a b t) : IsRes vs s c d t := by
  obtain ⟨f, h1, h2, h3, h4⟩ := ht
  refine ⟨f, h1, h2, h3, fun i hi j hj fi vj => ?_⟩
  have := h4 i hi j hj fi vj
  have key : ∀ (u : Int) (k : Nat), d * (u * dv a b k) = b * (u * dv c d k) := fun u k => by
    unfold dv
    have e1 : d * (u * (a + b * k)) = u * (a * d) + b * (u * (d * k)) := by
      rw [Int.mul_add, Int.mul_add, Int.mul_left_comm d u a, Int.mul_comm d a]
      congr 1
      simp only [Int.mul_left_comm, Int.mul_comm]
    rw [e1, h, Int.mul_add, Int.mul_add, Int.mul_left_comm b u c, Int.mul_comm b c]
  have h5 := Int.mul_le_mul_of_nonneg_left this (show 0 ≤ d by omega)
  rw [key, key] at h5
  exact Int.le_of_mul_le_mul_left h5 hb
theorem resT_alike {c d : Int} (hb : 0 < b) (hd : 0 < d) (h : a * d = c * b) : resT vs s a b = resT vs s c d :=
  resT_congr fun t => ⟨isRes_alike hb hd h t, isRes_alike hd hb h.symm t⟩
/-- a row's places -/
theorem row_get {f : Nat → Nat} {n p : Nat} (hp : p < n) : ((List.range n).map fun q => ((f q : Nat) : Int))[p]? = some (f p : Int) := by
  simp [hp]
theorem ix_tupI {t : List Int} {p : Nat} {x : Int} (h : t[p]? = some x) (S : Sto) : oIx (tupI t) (.int (p : Int)) S = .ok (.int x) S :=
  ix_seq (n := p) rfl (by rw [List.getElem?_map, h]; rfl)
/-- by the kinder rule no greater party has fewer while a lesser one has more -/
theorem kinder_fair {c d : Int} (hb : 0 < b) (hd : 0 < d) (ha : 0 ≤ a) (hc : 0 ≤ c) (hk : c * b < a * d) {g h : List Int} (hg : IsRes vs s a b g) (hh : IsRes vs s c d h) {p q : Nat} (hp : p < vs.length) (hq : q < vs.length) (hv : vs.getD q 0 < vs.getD p 0) (v0 : 0 ≤ vs.getD q 0)
    {gp hp' gq hq' : Int} (e1 : g[p]? = some gp) (e2 : h[p]? = some hp') (e3 : g[q]? = some gq) (e4 : h[q]? = some hq') : ¬ (gp < hp' ∧ hq' < gq) := by
  obtain ⟨f, rfl, _, f3, f4⟩ := hg
  obtain ⟨k, rfl, _, k3, k4⟩ := hh
  rw [row_get hp] at e1 e2
  rw [row_get hq] at e3 e4
  cases e1
  cases e2
  cases e3
  cases e4
  rintro ⟨z1, z2⟩
  have vq : 0 < vs.getD q 0 := by
    by_cases y : 0 < vs.getD q 0
    · exact y
    · have := f3 q hq y
      omega
  have i1 := f4 q hq p hp (by omega) (by omega)
  have i2 := k4 p hp q hq (by omega) vq
  generalize vs.getD p 0 = u at *
  generalize vs.getD q 0 = v at *
  -- x = f q - 1 ≥ k q, y = f p ≤ k p - 1
  have mono : ∀ (α β : Int) (_ : 0 < β) (i j : Nat), i ≤ j → dv α β i ≤ dv α β j := fun α β hβ i j hij => by
    unfold dv
    have := Int.mul_le_mul_of_nonneg_left (show (i : Int) ≤ j by omega) (show 0 ≤ β by omega)
    omega
  have i3 : v * dv c d (f p) ≤ u * dv c d (f q - 1) := by
    have a1 := Int.mul_le_mul_of_nonneg_left (mono c d hd (f p) (k p - 1) (by omega)) (show 0 ≤ v by omega)
    have a2 := Int.mul_le_mul_of_nonneg_left (mono c d hd (k q) (f q - 1) (by omega)) (show 0 ≤ u by omega)
    omega
  generalize f q - 1 = x at *
  generalize f p = y at *
  have ha' : 0 < a := by
    by_cases z : 0 < a
    · exact z
    · have : a = 0 := by omega
      subst this
      have : 0 ≤ c * b := Int.mul_nonneg hc (by omega)
      omega
  have dx : 0 < dv a b x := dv_pos ha (by omega) (.inl ha')
  have dy : 0 < dv a b y := dv_pos ha (by omega) (.inl ha')
  have hxy : x < y := by
    by_cases z : x < y
    · exact z
    · exfalso
      have m1 := Int.mul_le_mul_of_nonneg_left (mono a b hb y x (by omega)) (show 0 ≤ v by omega)
      have m2 := Int.mul_lt_mul_of_pos_right hv dx
      omega
  have d2 : 0 ≤ dv c d y := dv_nn hc (by omega) y
  have j1 := Int.mul_le_mul_of_nonneg_right i1 d2
  have j2 := Int.mul_le_mul_of_nonneg_right i3 (show 0 ≤ dv a b y by omega)
  have e5 : v * dv a b y * dv c d y = v * dv c d y * dv a b y := by simp only [Int.mul_assoc, Int.mul_comm, Int.mul_left_comm]
  have j3 : u * (dv a b x * dv c d y) ≤ u * (dv c d x * dv a b y) := by
    rw [← Int.mul_assoc, ← Int.mul_assoc]
    omega
  have j4 := Int.le_of_mul_le_mul_left j3 (show 0 < u by omega)
  unfold dv at j4
  have X : (a + b * (x : Int)) * (c + d * (y : Int)) = a * c + a * d * y + c * b * x + b * d * (x * y) := by
    simp only [Int.add_mul, Int.mul_add, Int.mul_assoc, Int.mul_comm, Int.mul_left_comm]
    omega
  have Y : (c + d * (x : Int)) * (a + b * (y : Int)) = a * c + c * b * y + a * d * x + b * d * (x * y) := by
    simp only [Int.add_mul, Int.mul_add, Int.mul_assoc, Int.mul_comm, Int.mul_left_comm]
    omega
  rw [X, Y] at j4
  have k1 : (a * d - c * b) * ((y : Int) - x) ≤ 0 := by
    rw [Int.sub_mul, Int.mul_sub, Int.mul_sub]
    omega
  have k2 : 0 < (a * d - c * b) * ((y : Int) - x) := Int.mul_pos (by omega) (by omega)
  omega
end
end Q
end

section
set_option linter.all false
set_option maxRecDepth 100000
set_option maxHeartbeats 4000000
set_option autoImplicit false
/-! a seat in each result, told by claims of the others (no program in sight) -/
namespace Q
open DL M
/-- how many claims of other votes are at least the claim of own ones to seat k -/
def clG (o own a b k : Int) : Int := if o = 0 then 0 else if 0 ≤ o * (a + b * (k - 1)) - own * a then (o * (a + b * (k - 1)) - own * a) / (own * b) + 1 else 0
theorem clG_iff {o own a b k : Int} (ho : 0 ≤ o) (hw : 0 < own) (ha : 1 ≤ a) (hb : 1 ≤ b) (l : Nat) : (l : Int) < clG o own a b k ↔ own * dv a b l ≤ o * (a + b * (k - 1)) := by
  have hob : 0 < own * b := Int.mul_pos hw (by omega)
  have hl : 0 ≤ own * b * l := Int.mul_nonneg (by omega) (by omega)
  have e : own * dv a b l = own * a + own * b * l := by
    unfold dv
    rw [Int.mul_add, Int.mul_assoc]
  have hoa : 0 < own * a := Int.mul_pos hw (by omega)
  rw [e]
  unfold clG
  by_cases z : o = 0
  · rw [if_pos z, z]
    omega
  · rw [if_neg z]
    generalize o * (a + b * (k - 1)) = R at *
    by_cases y : 0 ≤ R - own * a
    · rw [if_pos y]
      have := Int.le_ediv_iff_mul_le (a := l) (b := R - own * a) hob
      rw [Int.mul_comm (l : Int)] at this
      omega
    · rw [if_neg y]
      omega
theorem clG_nn {o own a b k : Int} (hw : 0 < own) (hb : 1 ≤ b) : 0 ≤ clG o own a b k := by
  have hob : 0 < own * b := Int.mul_pos hw (by omega)
  unfold clG
  split
  · omega
  · split
    · rename_i h
      have := Int.ediv_nonneg h (show (0 : Int) ≤ own * b by omega)
      omega
    · omega
theorem clG_lt {o own a b k : Int} (ho : 0 ≤ o) (hw : 0 < own) (ha : 1 ≤ a) (hb : 1 ≤ b) (l : Nat) : l < (clG o own a b k).toNat ↔ own * dv a b l ≤ o * (a + b * (k - 1)) := by
  rw [← clG_iff ho hw ha hb l]
  have := clG_nn (o := o) (a := a) (k := k) hw hb
  omega
theorem clG_anti {o own own' a b k : Int} (ho : 0 ≤ o) (hw : 0 < own) (hle : own ≤ own') (ha : 1 ≤ a) (hb : 1 ≤ b) : (clG o own' a b k).toNat ≤ (clG o own a b k).toNat := by
  refine Nat.le_of_not_lt fun h => ?_
  have h1 := (clG_lt (l := (clG o own a b k).toNat) ho (show 0 < own' by omega) ha hb).mp h
  have h2 := mt (clG_lt (l := (clG o own a b k).toNat) ho hw ha hb).mpr (Nat.lt_irrefl _)
  have d : 0 < dv a b (clG o own a b k).toNat := dv_pos (by omega) hb (.inl (by omega))
  have := Int.mul_le_mul_of_nonneg_right hle (show 0 ≤ dv a b (clG o own a b k).toNat by omega)
  omega
/-- all others' such claims -/
def agG (vs : List Int) (a b : Int) (p : Nat) (k : Int) : Nat := fsum vs.length fun j => if j = p then 0 else (clG (vs.getD j 0) (vs.getD p 0) a b k).toNat
/-- whether a party surely has a seat -/
def okG (vs : List Int) (s : Nat) (a b : Int) (p k : Nat) : Prop := 0 < vs.getD p 0 ∧ k + agG vs a b p k ≤ s
instance (vs : List Int) (s : Nat) (a b : Int) (p k : Nat) : Decidable (okG vs s a b p k) := by unfold okG; exact inferInstance
theorem fsum_upd {n : Nat} {f : Nat → Nat} {p : Nat} (hp : p < n) : fsum n f = fsum n (fun j => if j = p then 0 else f j) + f p := by
  have h1 := fsum_one (n := n) (f p) hp
  rw [← h1, ← fsum_add]
  refine fsum_congr fun j hj => ?_
  by_cases z : j = p
  · simp [z]
  · simp [z]
section
variable {vs : List Int} {s : Nat} {a b : Int}
theorem dv_mono (hb : 1 ≤ b) {i j : Nat} (h : i ≤ j) : dv a b i ≤ dv a b j := by
  unfold dv
  have := Int.mul_le_mul_of_nonneg_left (show (i : Int) ≤ j by omega) (show 0 ≤ b by omega)
  omega
theorem mul_mono {v x y : Int} (hv : 0 ≤ v) (h : x ≤ y) : v * x ≤ v * y := Int.mul_le_mul_of_nonneg_left h hv
/-- a seat moved along a tie -/
def mv (f : Nat → Nat) (p j : Nat) : Nat → Nat := fun q => if q = p then f p - 1 else if q = j then f j + 1 else f q
theorem mv_res (V : VRes vs s a b) (ha : 1 ≤ a) {f : Nat → Nat} {p j : Nat} (hp : p < vs.length) (hj : j < vs.length) (hpj : j ≠ p) (hs : fsum vs.length f = s) (hi : ∀ p < vs.length, ¬ 0 < vs.getD p 0 → f p = 0)
    (hf : ∀ i < vs.length, ∀ j < vs.length, 0 < f i → 0 < vs.getD j 0 → vs.getD j 0 * dv a b (f i - 1) ≤ vs.getD i 0 * dv a b (f j)) (fp : 0 < f p) (vp : 0 < vs.getD p 0) (vj : 0 < vs.getD j 0) (ht : vs.getD j 0 * dv a b (f p - 1) = vs.getD p 0 * dv a b (f j)) :
    IsRes vs s a b ((List.range vs.length).map fun q => ((mv f p j q : Nat) : Int)) := by
  have hb := V.b0
  have nn : ∀ q < vs.length, 0 ≤ vs.getD q 0 := fun q hq => V.lo _ (getD_mem hq)
  refine ⟨mv f p j, rfl, ?_, fun q hq hv => ?_, fun i hi' q hq h0 vq => ?_⟩
  · have e1 := fsum_upd (f := mv f p j) hp
    have e2 := fsum_upd (f := fun q => if q = p then 0 else mv f p j q) hj
    have e3 := fsum_upd (f := f) hp
    have e4 := fsum_upd (f := fun q => if q = p then 0 else f q) hj
    have e5 : (fsum vs.length fun q => if q = j then 0 else if q = p then 0 else mv f p j q) = fsum vs.length fun q => if q = j then 0 else if q = p then 0 else f q := fsum_congr fun q _ => by
      unfold mv
      split
      · rfl
      · split
        · rfl
        · rename_i h1 h2
          simp [h1, h2]
    rw [e5] at e2
    rw [if_neg hpj] at e2 e4
    have m1 : mv f p j p = f p - 1 := by simp [mv]
    have m2 : mv f p j j = f j + 1 := by simp [mv, hpj]
    omega
  · have h1 : q ≠ p := fun e => hv (e ▸ vp)
    have h2 : q ≠ j := fun e => hv (e ▸ vj)
    simp only [mv, h1, h2, if_false]
    exact hi q hq hv
  · have orig := fun i hi q hq => hf i hi q hq
    have nq := nn q hq
    have ni := nn i hi'
    by_cases iq : i = q
    · subst iq
      exact mul_mono ni (dv_mono hb (by omega))
    have mq : ∀ q, q ≠ p → q ≠ j → mv f p j q = f q := fun q h1 h2 => by simp [mv, h1, h2]
    have mp : mv f p j p = f p - 1 := by simp [mv]
    have mj : mv f p j j = f j + 1 := by simp [mv, hpj]
    by_cases ip : i = p
    · subst ip
      rw [mp] at h0 ⊢
      by_cases qj : q = j
      · subst qj
        rw [mj]
        have h1 := mul_mono nq (dv_mono (a := a) hb (show f i - 1 - 1 ≤ f i - 1 by omega))
        have h2 := mul_mono ni (dv_mono (a := a) hb (show f q ≤ f q + 1 by omega))
        omega
      · rw [mq q (fun e => iq e.symm) qj]
        have h1 := mul_mono nq (dv_mono (a := a) hb (show f i - 1 - 1 ≤ f i - 1 by omega))
        have h2 := orig i hi' q hq fp vq
        omega
    by_cases ij : i = j
    · subst ij
      rw [mj, Nat.add_sub_cancel]
      by_cases qp : q = p
      · subst qp
        rw [mp]
        omega
      · rw [mq q qp (fun e => iq e.symm)]
        have h2 := orig p hp q hq fp vq
        refine Int.le_of_mul_le_mul_left (a := vs.getD p 0) ?_ vp
        have h3 := mul_mono ni h2
        have e1 : vs.getD p 0 * (vs.getD q 0 * dv a b (f i)) = vs.getD i 0 * (vs.getD q 0 * dv a b (f p - 1)) := by
          rw [Int.mul_left_comm, ← ht, Int.mul_left_comm]
        rw [e1, Int.mul_left_comm (vs.getD p 0)]
        exact h3
    · rw [mq i ip ij] at h0 ⊢
      by_cases qp : q = p
      · subst qp
        rw [mp]
        have h2 := orig i hi' j hj h0 vj
        refine Int.le_of_mul_le_mul_left (a := vs.getD j 0) ?_ vj
        have h3 := mul_mono nq h2
        rw [Int.mul_left_comm (vs.getD j 0) (vs.getD i 0), ht, Int.mul_left_comm (vs.getD j 0), Int.mul_left_comm (vs.getD i 0)]
        exact h3
      · by_cases qj : q = j
        · subst qj
          rw [mj]
          have h1 := orig i hi' q hq h0 vq
          have h2 := mul_mono ni (dv_mono (a := a) hb (show f q ≤ f q + 1 by omega))
          omega
        · rw [mq q qp qj]
          exact orig i hi' q hq h0 vq
/-- A SEAT IN EACH RESULT -/
theorem sure_iff (V : VRes vs s a b) (ha : 1 ≤ a) {p k : Nat} (hp : p < vs.length) (vp : 0 < vs.getD p 0) (hk : 1 ≤ k) : (∀ t ∈ resT vs s a b, (k : Int) ≤ t.getD p 0) ↔ okG vs s a b p k := by
  have hb := V.b0
  have nn : ∀ q < vs.length, 0 ≤ vs.getD q 0 := fun q hq => V.lo _ (getD_mem hq)
  obtain ⟨_, hmem, hne⟩ := V.resT
  have key : ∀ j < vs.length, ∀ l, (l < (clG (vs.getD j 0) (vs.getD p 0) a b k).toNat ↔ vs.getD p 0 * dv a b l ≤ vs.getD j 0 * dv a b (k - 1)) := fun j hj l => by
    have := clG_lt (o := vs.getD j 0) (own := vs.getD p 0) (a := a) (b := b) (k := k) (nn j hj) vp ha hb l
    rw [this]
    unfold dv
    rw [show ((k - 1 : Nat) : Int) = (k : Int) - 1 by omega]
  have gd : ∀ f : Nat → Nat, ((List.range vs.length).map fun p => ((f p : Nat) : Int)).getD p 0 = f p := fun f => by
    rw [List.getD_eq_getElem?_getD, row_get hp]
    rfl
  unfold okG
  constructor
  · intro h
    refine ⟨vp, Nat.le_of_not_lt fun hlt => ?_⟩
    obtain ⟨t, ht⟩ := List.exists_mem_of_ne_nil _ hne
    have hkt := h t ht
    obtain ⟨f, rfl, hs, hi, hf⟩ := (hmem t).mp ht
    rw [gd f] at hkt
    have hkf : k ≤ f p := by exact_mod_cast hkt
    have e1 := fsum_upd (f := f) hp
    obtain ⟨j, hj, hjp, hjl⟩ : ∃ j < vs.length, j ≠ p ∧ f j < (clG (vs.getD j 0) (vs.getD p 0) a b k).toNat := by
      refine Classical.byContradiction fun hno => ?_
      have : (fsum vs.length fun j => if j = p then 0 else (clG (vs.getD j 0) (vs.getD p 0) a b k).toNat) ≤ fsum vs.length fun j => if j = p then 0 else f j := fsum_le fun j hj => by
        by_cases z : j = p
        · simp [z]
        · rw [if_neg z, if_neg z]
          exact Nat.le_of_not_lt fun y => hno ⟨j, hj, z, y⟩
      unfold agG at hlt
      omega
    have h1 := (key j hj (f j)).mp hjl
    have h2 : 0 < vs.getD p 0 * dv a b (f j) := Int.mul_pos vp (dv_pos (by omega) hb (.inl (by omega)))
    have vj : 0 < vs.getD j 0 := by
      have := nn j hj
      rcases Int.lt_or_eq_of_le this with z | z
      · exact z
      · rw [← z] at h1
        omega
    have h3 := hf p hp j hj (by omega) vj
    have h4 := mul_mono (nn j hj) (dv_mono (a := a) hb (show k - 1 ≤ f p - 1 by omega))
    have hkp : f p = k := by
      refine Classical.byContradiction fun z => ?_
      have := Int.mul_lt_mul_of_pos_left (dv_lt (a := a) hb (show k - 1 < f p - 1 by omega)) vj
      omega
    have hres := mv_res V ha hp hj hjp hs hi hf (by omega) vp vj (by omega)
    have := h _ ((hmem _).mpr hres)
    rw [gd] at this
    have m1 : mv f p j p = f p - 1 := by simp [mv]
    omega
  · rintro ⟨_, hle⟩ t ht
    obtain ⟨f, rfl, hs, hi, hf⟩ := (hmem t).mp ht
    rw [gd f]
    refine Int.ofNat_le.mpr (Nat.le_of_not_lt fun hlt => ?_)
    have e1 := fsum_upd (f := f) hp
    obtain ⟨j, hj, hjp, hjl⟩ : ∃ j < vs.length, j ≠ p ∧ (clG (vs.getD j 0) (vs.getD p 0) a b k).toNat < f j := by
      refine Classical.byContradiction fun hno => ?_
      have : (fsum vs.length fun j => if j = p then 0 else f j) ≤ fsum vs.length fun j => if j = p then 0 else (clG (vs.getD j 0) (vs.getD p 0) a b k).toNat := fsum_le fun j hj => by
        by_cases z : j = p
        · simp [z]
        · rw [if_neg z, if_neg z]
          exact Nat.le_of_not_lt fun y => hno ⟨j, hj, z, y⟩
      unfold agG at hle
      omega
    have h1 := mt (key j hj (f j - 1)).mpr (by omega)
    have h2 := hf j hj p hp (by omega) vp
    have h3 := mul_mono (nn j hj) (dv_mono (a := a) hb (show f p ≤ k - 1 by omega))
    omega
theorem set_getD {p j : Nat} {x : Int} (hp : p < vs.length) : (vs.set p x).getD j 0 = if j = p then x else vs.getD j 0 := by
  rw [List.getD_eq_getElem?_getD, List.getD_eq_getElem?_getD, List.getElem?_set]
  by_cases z : j = p
  · subst z
    simp [hp]
  · rw [if_neg z, if_neg (fun e => z e.symm)]
/-- with own votes x -/
theorem okG_set {p k : Nat} {x : Int} (hp : p < vs.length) : okG (vs.set p x) s a b p k ↔ 0 < x ∧ k + (fsum vs.length fun j => if j = p then 0 else (clG (vs.getD j 0) x a b k).toNat) ≤ s := by
  unfold okG agG
  rw [set_getD hp, if_pos rfl, List.length_set]
  refine and_congr_right fun _ => ?_
  have : (fsum vs.length fun j => if j = p then 0 else (clG ((vs.set p x).getD j 0) x a b k).toNat) = fsum vs.length fun j => if j = p then 0 else (clG (vs.getD j 0) x a b k).toNat := fsum_congr fun j _ => by
    rw [set_getD hp]
    by_cases z : j = p
    · simp [z]
    · simp [z]
  rw [this]
theorem okG_mono {p k : Nat} {x y : Int} (lo : ∀ v ∈ vs, 0 ≤ v) (ha : 1 ≤ a) (hb : 1 ≤ b) (hp : p < vs.length) (hxy : x ≤ y) (h : okG (vs.set p x) s a b p k) : okG (vs.set p y) s a b p k := by
  rw [okG_set hp] at h ⊢
  refine ⟨by omega, Nat.le_trans (Nat.add_le_add_left (fsum_le fun j hj => ?_) k) h.2⟩
  split
  · omega
  · exact clG_anti (lo _ (getD_mem hj)) h.1 hxy ha hb
end
end Q
end

section
set_option linter.all false
set_option maxRecDepth 100000
set_option maxHeartbeats 4000000
set_option autoImplicit false
/-! a seat in some result; fewest and most seats; votes nearer or further (no program in sight) -/
namespace Q
open DL M
/-- how many claims of other votes are above the claim of own ones to seat k -/
def clA (o own a b k : Int) : Int := if o = 0 then 0 else max 0 (-((-(o * (a + b * (k - 1)) - own * a)) / (own * b)))
theorem clA_iff {o own a b k : Int} (ho : 0 ≤ o) (hw : 0 < own) (ha : 1 ≤ a) (hb : 1 ≤ b) (l : Nat) : (l : Int) < clA o own a b k ↔ own * dv a b l < o * (a + b * (k - 1)) := by
  have hob : 0 < own * b := Int.mul_pos hw (by omega)
  have hl : 0 ≤ own * b * l := Int.mul_nonneg (by omega) (by omega)
  have e : own * dv a b l = own * a + own * b * l := by
    unfold dv
    rw [Int.mul_add, Int.mul_assoc]
  have hoa : 0 < own * a := Int.mul_pos hw (by omega)
  rw [e]
  unfold clA
  by_cases z : o = 0
  · rw [if_pos z, z]
    omega
  · rw [if_neg z]
    generalize o * (a + b * (k - 1)) = R at *
    have := Int.ediv_lt_iff_lt_mul (a := -(R - own * a)) (b := -(l : Int)) hob
    rw [Int.neg_mul, Int.mul_comm (l : Int)] at this
    omega
theorem clA_nn {o own a b k : Int} : 0 ≤ clA o own a b k := by
  unfold clA
  split <;> omega
theorem clA_lt {o own a b k : Int} (ho : 0 ≤ o) (hw : 0 < own) (ha : 1 ≤ a) (hb : 1 ≤ b) (l : Nat) : l < (clA o own a b k).toNat ↔ own * dv a b l < o * (a + b * (k - 1)) := by
  rw [← clA_iff ho hw ha hb l]
  have := clA_nn (o := o) (own := own) (a := a) (b := b) (k := k)
  omega
def agA (vs : List Int) (a b : Int) (p : Nat) (k : Int) : Nat := fsum vs.length fun j => if j = p then 0 else (clA (vs.getD j 0) (vs.getD p 0) a b k).toNat
def okC (vs : List Int) (s : Nat) (a b : Int) (p k : Nat) : Prop := 0 < vs.getD p 0 ∧ k + agA vs a b p k ≤ s
instance (vs : List Int) (s : Nat) (a b : Int) (p k : Nat) : Decidable (okC vs s a b p k) := by unfold okC; exact inferInstance
theorem dk_nn {a b : Int} {k : Nat} (ha : 1 ≤ a) (hb : 1 ≤ b) (hk : 1 ≤ k) : 0 ≤ a + b * ((k : Int) - 1) := by
  have := Int.mul_nonneg (show 0 ≤ b by omega) (show 0 ≤ (k : Int) - 1 by omega)
  omega
theorem clG_mono {o o' own own' a b : Int} {k : Nat} (hk : 1 ≤ k) (ho : 0 ≤ o) (hw : 0 < own') (hle : own' ≤ own) (hoo : o ≤ o') (ha : 1 ≤ a) (hb : 1 ≤ b) : (clG o own a b k).toNat ≤ (clG o' own' a b k).toNat := by
  refine Nat.le_of_not_lt fun h => ?_
  have h1 := (clG_lt (l := (clG o' own' a b k).toNat) ho (show 0 < own by omega) ha hb).mp h
  have h2 := mt (clG_lt (l := (clG o' own' a b k).toNat) (show 0 ≤ o' by omega) hw ha hb).mpr (Nat.lt_irrefl _)
  have d : 0 < dv a b (clG o' own' a b k).toNat := dv_pos (by omega) hb (.inl (by omega))
  have e1 := Int.mul_le_mul_of_nonneg_right hle (show 0 ≤ dv a b (clG o' own' a b k).toNat by omega)
  have e2 := Int.mul_le_mul_of_nonneg_right hoo (dk_nn ha hb hk)
  omega
theorem clA_mono {o o' own own' a b : Int} {k : Nat} (hk : 1 ≤ k) (ho : 0 ≤ o) (hw : 0 < own') (hle : own' ≤ own) (hoo : o ≤ o') (ha : 1 ≤ a) (hb : 1 ≤ b) : (clA o own a b k).toNat ≤ (clA o' own' a b k).toNat := by
  refine Nat.le_of_not_lt fun h => ?_
  have h1 := (clA_lt (l := (clA o' own' a b k).toNat) ho (show 0 < own by omega) ha hb).mp h
  have h2 := mt (clA_lt (l := (clA o' own' a b k).toNat) (show 0 ≤ o' by omega) hw ha hb).mpr (Nat.lt_irrefl _)
  have d : 0 < dv a b (clA o' own' a b k).toNat := dv_pos (by omega) hb (.inl (by omega))
  have e1 := Int.mul_le_mul_of_nonneg_right hle (show 0 ≤ dv a b (clA o' own' a b k).toNat by omega)
  have e2 := Int.mul_le_mul_of_nonneg_right hoo (dk_nn ha hb hk)
  omega
section
variable {vs ws : List Int} {s : Nat} {a b : Int}
theorem okG_mono2 {p k : Nat} (hk : 1 ≤ k) (lo : ∀ v ∈ vs, 0 ≤ v) (ha : 1 ≤ a) (hb : 1 ≤ b) (hp : p < vs.length) (hl : ws.length = vs.length) (hw : ws.getD p 0 ≤ vs.getD p 0) (ho : ∀ j < vs.length, j ≠ p → vs.getD j 0 ≤ ws.getD j 0) (h : okG ws s a b p k) : okG vs s a b p k := by
  refine ⟨by have := h.1; omega, Nat.le_trans (Nat.add_le_add_left ?_ k) h.2⟩
  unfold agG
  rw [hl]
  refine fsum_le fun j hj => ?_
  by_cases z : j = p
  · simp [z]
  · rw [if_neg z, if_neg z]
    exact clG_mono hk (lo _ (getD_mem hj)) h.1 hw (ho j hj z) ha hb
theorem okC_mono2 {p k : Nat} (hk : 1 ≤ k) (lo : ∀ v ∈ vs, 0 ≤ v) (ha : 1 ≤ a) (hb : 1 ≤ b) (hp : p < vs.length) (hl : ws.length = vs.length) (hw : ws.getD p 0 ≤ vs.getD p 0) (ho : ∀ j < vs.length, j ≠ p → vs.getD j 0 ≤ ws.getD j 0) (h : okC ws s a b p k) : okC vs s a b p k := by
  refine ⟨by have := h.1; omega, Nat.le_trans (Nat.add_le_add_left ?_ k) h.2⟩
  unfold agA
  rw [hl]
  refine fsum_le fun j hj => ?_
  by_cases z : j = p
  · simp [z]
  · rw [if_neg z, if_neg z]
    exact clA_mono hk (lo _ (getD_mem hj)) h.1 hw (ho j hj z) ha hb
/-- A SEAT IN SOME RESULT -/
theorem chance_iff (V : VRes vs s a b) (ha : 1 ≤ a) {p k : Nat} (hp : p < vs.length) (vp : 0 < vs.getD p 0) (hk : 1 ≤ k) : (∃ t ∈ resT vs s a b, (k : Int) ≤ t.getD p 0) ↔ okC vs s a b p k := by
  have hb := V.b0
  have nn : ∀ q < vs.length, 0 ≤ vs.getD q 0 := fun q hq => V.lo _ (getD_mem hq)
  obtain ⟨_, hmem, hne⟩ := V.resT
  have key : ∀ j < vs.length, ∀ l, (l < (clA (vs.getD j 0) (vs.getD p 0) a b k).toNat ↔ vs.getD p 0 * dv a b l < vs.getD j 0 * dv a b (k - 1)) := fun j hj l => by
    have := clA_lt (o := vs.getD j 0) (own := vs.getD p 0) (a := a) (b := b) (k := k) (nn j hj) vp ha hb l
    rw [this]
    unfold dv
    rw [show ((k - 1 : Nat) : Int) = (k : Int) - 1 by omega]
  have gd : ∀ f : Nat → Nat, ((List.range vs.length).map fun p => ((f p : Nat) : Int)).getD p 0 = f p := fun f => by
    rw [List.getD_eq_getElem?_getD, row_get hp]
    rfl
  unfold okC
  constructor
  · rintro ⟨t, ht, hkt⟩
    refine ⟨vp, Nat.le_of_not_lt fun hlt => ?_⟩
    obtain ⟨f, rfl, hs, hi, hf⟩ := (hmem t).mp ht
    rw [gd f] at hkt
    have hkf : k ≤ f p := by exact_mod_cast hkt
    have e1 := fsum_upd (f := f) hp
    obtain ⟨j, hj, hjp, hjl⟩ : ∃ j < vs.length, j ≠ p ∧ f j < (clA (vs.getD j 0) (vs.getD p 0) a b k).toNat := by
      refine Classical.byContradiction fun hno => ?_
      have : (fsum vs.length fun j => if j = p then 0 else (clA (vs.getD j 0) (vs.getD p 0) a b k).toNat) ≤ fsum vs.length fun j => if j = p then 0 else f j := fsum_le fun j hj => by
        by_cases z : j = p
        · simp [z]
        · rw [if_neg z, if_neg z]
          exact Nat.le_of_not_lt fun y => hno ⟨j, hj, z, y⟩
      unfold agA at hlt
      omega
    have h1 := (key j hj (f j)).mp hjl
    have h2 : 0 < vs.getD p 0 * dv a b (f j) := Int.mul_pos vp (dv_pos (by omega) hb (.inl (by omega)))
    have vj : 0 < vs.getD j 0 := by
      have := nn j hj
      rcases Int.lt_or_eq_of_le this with z | z
      · exact z
      · rw [← z] at h1
        omega
    have h3 := hf p hp j hj (by omega) vj
    have h4 := mul_mono (nn j hj) (dv_mono (a := a) hb (show k - 1 ≤ f p - 1 by omega))
    omega
  · rintro ⟨_, hle⟩
    obtain ⟨t, ht⟩ := List.exists_mem_of_ne_nil _ hne
    obtain ⟨f, rfl, hs, hi, hf⟩ := (hmem t).mp ht
    by_cases hkf : k ≤ f p
    · refine ⟨_, ht, ?_⟩
      rw [gd f]
      exact_mod_cast hkf
    have e1 := fsum_upd (f := f) hp
    obtain ⟨j, hj, hjp, hjl⟩ : ∃ j < vs.length, j ≠ p ∧ (clA (vs.getD j 0) (vs.getD p 0) a b k).toNat < f j := by
      refine Classical.byContradiction fun hno => ?_
      have : (fsum vs.length fun j => if j = p then 0 else f j) ≤ fsum vs.length fun j => if j = p then 0 else (clA (vs.getD j 0) (vs.getD p 0) a b k).toNat := fsum_le fun j hj => by
        by_cases z : j = p
        · simp [z]
        · rw [if_neg z, if_neg z]
          exact Nat.le_of_not_lt fun y => hno ⟨j, hj, z, y⟩
      unfold agA at hle
      omega
    have h1 := mt (key j hj (f j - 1)).mpr (by omega)
    have h2 := hf j hj p hp (by omega) vp
    have h3 := mul_mono (nn j hj) (dv_mono (a := a) hb (show f p ≤ k - 1 by omega))
    have vj : 0 < vs.getD j 0 := by
      refine Classical.byContradiction fun z => ?_
      have := hi j hj z
      omega
    have hkp : f p = k - 1 := by
      refine Classical.byContradiction fun z => ?_
      have := Int.mul_lt_mul_of_pos_left (dv_lt (a := a) hb (show f p < k - 1 by omega)) vj
      omega
    have hres := mv_res V ha hj hp (fun e => hjp e.symm) hs hi hf (by omega) vj vp (by omega)
    refine ⟨_, (hmem _).mpr hres, ?_⟩
    rw [gd]
    have m1 : mv f j p p = f p + 1 := by simp [mv, Ne.symm hjp]
    omega
/-- the fewest seats, the most -/
noncomputable def lowT (vs : List Int) (s : Nat) (a b : Int) (p : Nat) : Int := minI ((resT vs s a b).map fun t => t.getD p 0)
noncomputable def highT (vs : List Int) (s : Nat) (a b : Int) (p : Nat) : Int := maxI ((resT vs s a b).map fun t => t.getD p 0)
theorem low_mem (V : VRes vs s a b) (p : Nat) : (∃ t ∈ resT vs s a b, t.getD p 0 = lowT vs s a b p) ∧ ∀ t ∈ resT vs s a b, lowT vs s a b p ≤ t.getD p 0 := by
  have hm := minI_mem (is := (resT vs s a b).map fun t => t.getD p 0) (by simpa using V.resT.2.2)
  obtain ⟨t, ht, e⟩ := List.mem_map.mp hm.1
  exact ⟨⟨t, ht, e⟩, fun t ht => hm.2 _ (List.mem_map.mpr ⟨t, ht, rfl⟩)⟩
theorem high_mem (V : VRes vs s a b) (p : Nat) : (∃ t ∈ resT vs s a b, t.getD p 0 = highT vs s a b p) ∧ ∀ t ∈ resT vs s a b, t.getD p 0 ≤ highT vs s a b p := by
  have hm := maxI_mem (is := (resT vs s a b).map fun t => t.getD p 0) (by simpa using V.resT.2.2)
  obtain ⟨t, ht, e⟩ := List.mem_map.mp hm.1
  exact ⟨⟨t, ht, e⟩, fun t ht => hm.2 _ (List.mem_map.mpr ⟨t, ht, rfl⟩)⟩
/-- seats of a table -/
theorem res_bd {t : List Int} (ht : IsRes vs s a b t) {p : Nat} (hp : p < vs.length) : 0 ≤ t.getD p 0 ∧ t.getD p 0 ≤ s ∧ (¬ 0 < vs.getD p 0 → t.getD p 0 = 0) := by
  obtain ⟨f, rfl, hs, hi, _⟩ := ht
  have e : ((List.range vs.length).map fun p => ((f p : Nat) : Int)).getD p 0 = f p := by
    rw [List.getD_eq_getElem?_getD, row_get hp]
    rfl
  have := fle hs hp
  rw [e]
  exact ⟨by omega, by omega, fun h => by rw [hi p hp h]; rfl⟩
theorem low_bd (V : VRes vs s a b) {p : Nat} (hp : p < vs.length) : 0 ≤ lowT vs s a b p ∧ lowT vs s a b p ≤ s := by
  obtain ⟨⟨t, ht, e⟩, _⟩ := low_mem V p
  have := res_bd ((V.resT.2.1 t).mp ht) hp
  omega
theorem high_bd (V : VRes vs s a b) {p : Nat} (hp : p < vs.length) : 0 ≤ highT vs s a b p ∧ highT vs s a b p ≤ s := by
  obtain ⟨⟨t, ht, e⟩, _⟩ := high_mem V p
  have := res_bd ((V.resT.2.1 t).mp ht) hp
  omega
theorem low_any (V : VRes vs s a b) (ha : 1 ≤ a) {p k : Nat} (hp : p < vs.length) (hk : 1 ≤ k) : ((k : Int) ≤ lowT vs s a b p) ↔ okG vs s a b p k := by
  obtain ⟨⟨t0, ht0, e⟩, hle⟩ := low_mem V p
  by_cases vp : 0 < vs.getD p 0
  · rw [← sure_iff V ha hp vp hk]
    constructor
    · intro h t ht
      exact Int.le_trans h (hle t ht)
    · intro h
      rw [← e]
      exact h t0 ht0
  · refine ⟨fun h => ?_, fun h => absurd h.1 vp⟩
    have := (res_bd ((V.resT.2.1 t0).mp ht0) hp).2.2 vp
    omega
theorem high_any (V : VRes vs s a b) (ha : 1 ≤ a) {p k : Nat} (hp : p < vs.length) (hk : 1 ≤ k) : ((k : Int) ≤ highT vs s a b p) ↔ okC vs s a b p k := by
  obtain ⟨⟨t0, ht0, e⟩, hle⟩ := high_mem V p
  by_cases vp : 0 < vs.getD p 0
  · rw [← chance_iff V ha hp vp hk]
    constructor
    · intro h
      exact ⟨t0, ht0, by rw [e]; exact h⟩
    · rintro ⟨t, ht, h⟩
      exact Int.le_trans h (hle t ht)
  · refine ⟨fun h => ?_, fun h => absurd h.1 vp⟩
    have := (res_bd ((V.resT.2.1 t0).mp ht0) hp).2.2 vp
    omega
theorem low_le (V : VRes vs s a b) (W : VRes ws s a b) (ha : 1 ≤ a) {p : Nat} (hp : p < vs.length) (hl : ws.length = vs.length) (hw : ws.getD p 0 ≤ vs.getD p 0) (ho : ∀ j < vs.length, j ≠ p → vs.getD j 0 ≤ ws.getD j 0) : lowT ws s a b p ≤ lowT vs s a b p := by
  have b1 := low_bd V hp
  have b2 := low_bd W (p := p) (by omega)
  by_cases z : lowT ws s a b p = 0
  · omega
  · have hk : (((lowT ws s a b p).toNat : Nat) : Int) = lowT ws s a b p := by omega
    have h1 := (low_any W ha (p := p) (k := (lowT ws s a b p).toNat) (by omega) (by omega)).mp (by omega)
    have h2 := (low_any V ha hp (by omega)).mpr (okG_mono2 (by omega) V.lo ha V.b0 hp hl hw ho h1)
    omega
theorem high_le (V : VRes vs s a b) (W : VRes ws s a b) (ha : 1 ≤ a) {p : Nat} (hp : p < vs.length) (hl : ws.length = vs.length) (hw : ws.getD p 0 ≤ vs.getD p 0) (ho : ∀ j < vs.length, j ≠ p → vs.getD j 0 ≤ ws.getD j 0) : highT ws s a b p ≤ highT vs s a b p := by
  have b1 := high_bd V hp
  have b2 := high_bd W (p := p) (by omega)
  by_cases z : highT ws s a b p = 0
  · omega
  · have hk : (((highT ws s a b p).toNat : Nat) : Int) = highT ws s a b p := by omega
    have h1 := (high_any W ha (p := p) (k := (highT ws s a b p).toNat) (by omega) (by omega)).mp (by omega)
    have h2 := (high_any V ha hp (by omega)).mpr (okC_mono2 (by omega) V.lo ha V.b0 hp hl hw ho h1)
    omega
theorem res_len {t : List Int} (h : IsRes vs s a b t) : t.length = vs.length := by
  obtain ⟨f, rfl, _⟩ := h
  simp
theorem resT_len0 (V : VRes vs s a b) : (resT vs s a b).length ≤ 64 := by
  obtain ⟨m, hm, _⟩ := V.mark
  rw [resT_eq (sortI_asc Rtabs_nodup) fun t => mem_sortI.trans (isRes_iff V hm t), (sortI_perm _).length_eq]
  unfold Rtabs
  rw [List.length_map]
  have h1 := combos_len ((List.range vs.length).filter (tie s (vB vs) (wB (Wp a b vs s)) m)) (s - fsum vs.length (sur s (vB vs) (wB (Wp a b vs s)) m))
  have h2 : ((List.range vs.length).filter (tie s (vB vs) (wB (Wp a b vs s)) m)).length ≤ 6 := Nat.le_trans (List.length_filter_le _ _) (by simpa using V.l1)
  have h3 : 2 ^ ((List.range vs.length).filter (tie s (vB vs) (wB (Wp a b vs s)) m)).length ≤ 2 ^ 6 := Nat.pow_le_pow_right (by omega) h2
  omega
theorem resT_len (V : VRes vs s a b) (_ : 1 ≤ a) : (resT vs s a b).length ≤ 64 := resT_len0 V
end
end Q
end

section
set_option linter.all false
set_option maxRecDepth 100000
set_option maxHeartbeats 4000000
set_option autoImplicit false
/-! reckoning lemmas used by many walks -/
namespace Q
open DL M
section
variable {vs : List Int} {s : Nat} {a b : Int}
theorem ix_getD {p : Nat} (hp : p < vs.length) (S : Sto) : oIx (tupI vs) (.int (p : Int)) S = .ok (.int (vs.getD p 0)) S := by
  refine ix_tupI ?_ S
  rw [List.getD_eq_getElem?_getD, List.getElem?_eq_getElem hp]
  rfl
theorem mulS {x y : Int} (h0 : 0 ≤ x) (h1 : x ≤ 1000000000000) (S : Sto) : oMulG (.int x) (.int y) S = .ok (.int (x * y)) S := oMulG_int _ _ _ (mulB_l h0 h1)
theorem oNe_int (S : Sto) (i j : Int) : oNe (.int i) (.int j) S = .ok (.bl (!decide (i = j))) S := by
  unfold oNe eqD
  simp [pyS, PySem.SeqAt.shaped, PySem.PyData.canLay0, PySem.PyData.depth, PySem.PyData.eqv]
  by_cases h : i = j <;> simp [h]
theorem sum_lst2 (S : Sto) (is : List Int) : fSum [.lst (is.map D.int)] S = .ok (.int is.sum) S := by
  simp [fSum, intsOf_ints]
theorem sum_toNat (n : Nat) (f : Nat → Int) (c : Nat → Bool) (h : ∀ j < n, c j = true → 0 ≤ f j) : (((List.range n).filter c).map f).sum = ((fsum n fun j => if c j = true then (f j).toNat else 0 : Nat) : Int) := by
  induction n with
  | zero => rfl
  | succ n ih =>
    have ih := ih fun j hj => h j (by omega)
    rw [List.range_succ, List.filter_append, List.map_append, List.sum_append, ih, fsum_succ]
    by_cases z : c n = true
    · have := h n (by omega) z
      simp [z]
      omega
    · simp [z]
/-- votes cut about a party -/
theorem cut_lo {p : Nat} (hp : p < vs.length) : cutD (vs.map D.int) none (some (p : Int)) = (vs.take p).map D.int := by
  have h1 : HT.sIx (vs.map D.int).length (vs.map D.int).length (some (p : Int)) = p := by
    rw [List.length_map, HT.sIx_nat]
    omega
  have h0 : HT.sIx (vs.map D.int).length 0 none = 0 := rfl
  unfold cutD
  rw [h1, h0, List.drop_zero, Nat.sub_zero, List.map_take]
theorem cut_hi {p : Nat} (hp : p < vs.length) : cutD (vs.map D.int) (some (((p + 1 : Nat) : Int))) none = (vs.drop (p + 1)).map D.int := by
  have h1 : HT.sIx (vs.map D.int).length 0 (some ((p + 1 : Nat) : Int)) = p + 1 := by
    rw [List.length_map, HT.sIx_nat]
    omega
  have h0 : HT.sIx (vs.map D.int).length (vs.map D.int).length none = (vs.map D.int).length := rfl
  unfold cutD
  rw [h1, h0, List.map_drop, List.take_of_length_le]
  simp
theorem set_split {p : Nat} (hp : p < vs.length) (x : Int) : vs.take p ++ x :: vs.drop (p + 1) = vs.set p x := by
  rw [List.set_eq_take_append_cons_drop, if_pos hp]
theorem set_lo {p : Nat} {x : Int} (lo : ∀ v ∈ vs, 0 ≤ v) (hx : 0 ≤ x) : ∀ v ∈ vs.set p x, 0 ≤ v := fun v hv => by
  rcases List.mem_or_eq_of_mem_set hv with h | h
  · exact lo v h
  · omega
theorem set_hi {p : Nat} {x M : Int} (hi : ∀ v ∈ vs, v ≤ M) (hx : x ≤ M) : ∀ v ∈ vs.set p x, v ≤ M := fun v hv => by
  rcases List.mem_or_eq_of_mem_set hv with h | h
  · exact hi v h
  · omega
/-- with own votes x above 0 -/
theorem VRes.set (V : VRes vs s a b) (ha : 1 ≤ a) {p : Nat} (hp : p < vs.length) {x : Int} (hx : 0 < x) (hx' : x ≤ 1000000000) : VRes (vs.set p x) s a b :=
  ⟨by rw [List.length_set]; exact V.l0, by rw [List.length_set]; exact V.l1, set_lo V.lo (by omega), set_hi V.hi hx', ⟨x, List.mem_set hp x, hx⟩, V.s0, V.s1, V.a0, V.a1, V.b0, V.b1, .inl (by omega)⟩
theorem sum_tup (S : Sto) (is : List Int) : fSum [tupI is] S = .ok (.int is.sum) S := by
  simp [fSum, tupI, intsOf_ints]
theorem sum_zero : ∀ {is : List Int}, (∀ v ∈ is, v = 0) → is.sum = 0
  | [], _ => rfl
  | v :: is, h => by
    rw [List.sum_cons, h v List.mem_cons_self, sum_zero fun w hw => h w (List.mem_cons_of_mem _ hw)]
    rfl
theorem len_parts (S : Sto) : fLen [tupI vs] S = .ok (.int vs.length) S := by simp [tupI]
theorem src_tupI (S : Sto) : srcOf (tupI vs) S = .ok (.fix (vs.map D.int)) S := rfl
end
end Q
end

section
set_option linter.all false
set_option maxRecDepth 100000
set_option maxHeartbeats 4000000
set_option autoImplicit false
/-! where no votes are asked for a first seat, each party that counts has one (no program in sight) -/
namespace Q
open DL M
section
variable {vs : List Int} {s : Nat} {a b : Int}
theorem cnt_fsum : ∀ (vs : List Int), (vs.filter fun v => decide (0 < v)).length = fsum vs.length fun p => if 0 < vs.getD p 0 then 1 else 0
  | [] => rfl
  | v :: vs => by
    have ih := cnt_fsum vs
    have e : fsum (v :: vs).length (fun p => if 0 < (v :: vs).getD p 0 then 1 else 0) = (if 0 < v then 1 else 0) + fsum vs.length fun p => if 0 < vs.getD p 0 then 1 else 0 := by
      unfold fsum
      rw [List.length_cons, List.range_succ_eq_map, List.map_cons, List.sum_cons, List.map_map]
      rfl
    rw [e, ← ih]
    by_cases z : 0 < v
    · simp [z]
      omega
    · simp [z]
theorem first_all (hb : 1 ≤ b) (hc : (vs.filter fun v => decide (0 < v)).length ≤ s) {f : Nat → Nat} (hs : fsum vs.length f = s) (hi : ∀ p < vs.length, ¬ 0 < vs.getD p 0 → f p = 0)
    (hf : ∀ i < vs.length, ∀ j < vs.length, 0 < f i → 0 < vs.getD j 0 → vs.getD j 0 * dv 0 b (f i - 1) ≤ vs.getD i 0 * dv 0 b (f j)) {p : Nat} (hp : p < vs.length) (vp : 0 < vs.getD p 0) : 0 < f p := by
  refine Classical.byContradiction fun z => ?_
  have z : f p = 0 := by omega
  have h1 : ∀ i < vs.length, f i ≤ if 0 < vs.getD i 0 then 1 else 0 := fun i hi2 => by
    by_cases vi : 0 < vs.getD i 0
    · rw [if_pos vi]
      refine Nat.le_of_not_lt fun h => ?_
      have h2 := hf i hi2 p hp (by omega) vp
      have d0 : dv 0 b (f p) = 0 := by rw [z]; simp [dv]
      have d1 : 0 < dv 0 b (f i - 1) := dv_pos (by omega) hb (.inr (by omega))
      have := Int.mul_pos vp d1
      rw [d0, Int.mul_zero] at h2
      omega
    · rw [if_neg vi, hi i hi2 vi]
      omega
  have h2 := fsum_lt h1 hp (by rw [z, if_pos vp]; omega)
  rw [← cnt_fsum] at h2
  omega
end
end Q
end

section
set_option linter.all false
set_option maxRecDepth 100000
set_option maxHeartbeats 4000000
set_option autoImplicit false
/-! two results side by side (no program in sight) -/
namespace Q
open DL M
section
variable {vs : List Int} {s : Nat} {a b : Int} {f g : Nat → Nat}
structure ResF (vs : List Int) (s : Nat) (a b : Int) (f : Nat → Nat) : Prop where
  sum : fsum vs.length f = s
  idle : ∀ p < vs.length, ¬ 0 < vs.getD p 0 → f p = 0
  fair : ∀ i < vs.length, ∀ j < vs.length, 0 < f i → 0 < vs.getD j 0 → vs.getD j 0 * dv a b (f i - 1) ≤ vs.getD i 0 * dv a b (f j)
def tfn (t : List Int) (p : Nat) : Nat := (t.getD p 0).toNat
theorem tfn_map {p : Nat} (hp : p < vs.length) : tfn ((List.range vs.length).map fun q => ((f q : Nat) : Int)) p = f p := by
  unfold tfn
  rw [List.getD_eq_getElem?_getD, row_get hp]
  simp
theorem map_congr (h : ∀ p < vs.length, f p = g p) : ((List.range vs.length).map fun q => ((f q : Nat) : Int)) = (List.range vs.length).map fun q => ((g q : Nat) : Int) :=
  List.map_congr_left fun p hp => congrArg Int.ofNat (h p (List.mem_range.mp hp))
theorem ResF.congr (F : ResF vs s a b f) (h : ∀ p < vs.length, f p = g p) : ResF vs s a b g := by
  refine ⟨?_, fun p hp v => by rw [← h p hp]; exact F.idle p hp v, fun i hi j hj => by rw [← h i hi, ← h j hj]; exact F.fair i hi j hj⟩
  rw [← F.sum]
  exact fsum_congr fun p hp => (h p hp).symm
theorem resF_iff {t : List Int} : IsRes vs s a b t ↔ ResF vs s a b (tfn t) ∧ t = (List.range vs.length).map fun p => ((tfn t p : Nat) : Int) := by
  constructor
  · rintro ⟨f, rfl, h1, h2, h3⟩
    have h : ∀ p < vs.length, f p = tfn ((List.range vs.length).map fun q => ((f q : Nat) : Int)) p := fun p hp => (tfn_map hp).symm
    exact ⟨ResF.congr ⟨h1, h2, h3⟩ h, map_congr h⟩
  · rintro ⟨h, e⟩
    exact ⟨tfn t, e, h.sum, h.idle, h.fair⟩
theorem ResF.vpos (F : ResF vs s a b f) {p : Nat} (hp : p < vs.length) (h : 0 < f p) : 0 < vs.getD p 0 := by
  refine Classical.byContradiction fun z => ?_
  have := F.idle p hp z
  omega
theorem ResF.exch (F : ResF vs s a b f) (G : ResF vs s a b g) {i : Nat} (hi : i < vs.length) (h : g i < f i) : ∃ k < vs.length, f k < g k := by
  refine Classical.byContradiction fun no => ?_
  have hle : ∀ p < vs.length, g p ≤ f p := fun p hp => Nat.le_of_not_lt fun z => no ⟨p, hp, z⟩
  have := fsum_lt hle hi h
  have h1 := F.sum
  have h2 := G.sum
  omega
theorem mul_cut {v x y : Int} (hv : 0 < v) (h : v * x ≤ v * y) : x ≤ y := Int.le_of_mul_le_mul_left h hv
/-- no party's fewest and most are more than one apart -/
theorem ResF.near (hb : 1 ≤ b) (F : ResF vs s a b f) (G : ResF vs s a b g) {i : Nat} (hi : i < vs.length) : f i ≤ g i + 1 := by
  refine Classical.byContradiction fun z => ?_
  obtain ⟨k, hk, hlt⟩ := F.exch G hi (by omega)
  have vk := G.vpos hk (by omega)
  have vi := F.vpos hi (by omega)
  have e1 := F.fair i hi k hk (by omega) vk
  have e2 := G.fair k hk i hi (by omega) vi
  have e3 := mul_mono (Int.le_of_lt vi) (dv_mono (a := a) hb (show f k ≤ g k - 1 by omega))
  have e4 := Int.mul_lt_mul_of_pos_left (dv_lt (a := a) hb (show g i < f i - 1 by omega)) vk
  omega
/-- what one result's party has is no less due than what is next in another -/
theorem ResF.cross (hb : 1 ≤ b) (F : ResF vs s a b f) (G : ResF vs s a b g) {i j : Nat} (hi : i < vs.length) (hj : j < vs.length) (fi : 0 < f i) (vj : 0 < vs.getD j 0) : vs.getD j 0 * dv a b (f i - 1) ≤ vs.getD i 0 * dv a b (g j) := by
  have vi := F.vpos hi fi
  by_cases z : g i < f i
  · by_cases y : f j ≤ g j
    · have e1 := F.fair i hi j hj fi vj
      have e2 := mul_mono (Int.le_of_lt vi) (dv_mono (a := a) hb y)
      omega
    · obtain ⟨k, hk, hlt⟩ := F.exch G hi z
      have vk := G.vpos hk (by omega)
      have e1 := F.fair i hi k hk fi vk
      have e2 := G.fair k hk j hj (by omega) vj
      have e3 := mul_mono (Int.le_of_lt vi) (dv_mono (a := a) hb (show f k ≤ g k - 1 by omega))
      refine mul_cut vk ?_
      have e4 := mul_mono (Int.le_of_lt vj) (Int.le_trans e1 e3)
      have e5 := mul_mono (Int.le_of_lt vi) e2
      rw [show vs.getD k 0 * (vs.getD j 0 * dv a b (f i - 1)) = vs.getD j 0 * (vs.getD k 0 * dv a b (f i - 1)) by ac_rfl]
      refine Int.le_trans e4 ?_
      rw [show vs.getD j 0 * (vs.getD i 0 * dv a b (g k - 1)) = vs.getD i 0 * (vs.getD j 0 * dv a b (g k - 1)) by ac_rfl]
      refine Int.le_trans e5 ?_
      rw [show vs.getD i 0 * (vs.getD k 0 * dv a b (g j)) = vs.getD k 0 * (vs.getD i 0 * dv a b (g j)) by ac_rfl]
      exact Int.le_refl _
  · have e1 := G.fair i hi j hj (by omega) vj
    have e2 := mul_mono (Int.le_of_lt vj) (dv_mono (a := a) hb (show f i - 1 ≤ g i - 1 by omega))
    omega
/-- the greatest next claim (of party p) is no more than that of another result (of party q) -/
theorem ResF.next_le (ha : 0 ≤ a) (hb : 1 ≤ b) (F : ResF vs s a b f) (G : ResF vs s a b g) {i p q : Nat} (hi : i < vs.length) (hlt : g i < f i) (hp : p < vs.length) (vp : 0 < vs.getD p 0)
    (hmax : ∀ r < vs.length, 0 < vs.getD r 0 → vs.getD r 0 * dv a b (g q) ≤ vs.getD q 0 * dv a b (g r)) : vs.getD p 0 * dv a b (g q) ≤ vs.getD q 0 * dv a b (f p) ∨ dv a b (g i) = 0 := by
  by_cases d0 : dv a b (g i) = 0
  · exact .inr d0
  refine .inl ?_
  have vi := F.vpos hi (by omega)
  have e1 := F.fair i hi p hp (by omega) vp
  have e2 := mul_mono (Int.le_of_lt vp) (dv_mono (a := a) hb (show g i ≤ f i - 1 by omega))
  have e3 := hmax i hi vi
  have dn : 0 ≤ dv a b (g i) := dv_nn ha (by omega) _
  have dq : 0 ≤ dv a b (g q) := dv_nn ha (by omega) _
  have dp : 0 ≤ dv a b (f p) := dv_nn ha (by omega) _
  -- v_p d_gi ≤ v_i d_fp, v_i d_gq ≤ v_q d_gi
  have h1 := mul_mono dq (Int.le_trans e2 e1)
  have h2 := mul_mono dp e3
  refine mul_cut (v := dv a b (g i)) (by omega) ?_
  rw [show dv a b (g i) * (vs.getD p 0 * dv a b (g q)) = dv a b (g q) * (vs.getD p 0 * dv a b (g i)) by ac_rfl]
  refine Int.le_trans h1 ?_
  rw [show dv a b (g q) * (vs.getD i 0 * dv a b (f p)) = dv a b (f p) * (vs.getD i 0 * dv a b (g q)) by ac_rfl]
  refine Int.le_trans h2 ?_
  rw [show dv a b (f p) * (vs.getD q 0 * dv a b (g i)) = dv a b (g i) * (vs.getD q 0 * dv a b (f p)) by ac_rfl]
  exact Int.le_refl _
/-- the least last claim (of party p) is no less than that of another result (of party q) -/
theorem ResF.last_ge (ha : 0 ≤ a) (hb : 1 ≤ b) (F : ResF vs s a b f) (G : ResF vs s a b g) {j p q : Nat} (hj : j < vs.length) (hlt : f j < g j) (dj : 0 < dv a b (f j)) (hp : p < vs.length) (fp : 0 < f p) 
    (hmin : ∀ r < vs.length, 0 < g r → 0 < dv a b (g r - 1) → vs.getD q 0 * dv a b (g r - 1) ≤ vs.getD r 0 * dv a b (g q - 1)) : vs.getD q 0 * dv a b (f p - 1) ≤ vs.getD p 0 * dv a b (g q - 1) := by
  have vj := G.vpos hj (by omega)
  have vp := F.vpos hp fp
  have e1 := F.fair p hp j hj fp vj
  have e0 := dv_mono (a := a) hb (show f j ≤ g j - 1 by omega)
  have e2 := mul_mono (Int.le_of_lt vp) e0
  have e3 := hmin j hj (by omega) (by omega)
  have dq : 0 ≤ dv a b (g q - 1) := dv_nn ha (by omega) _
  have dp : 0 ≤ dv a b (f p - 1) := dv_nn ha (by omega) _
  -- v_j d_fp ≤ v_p d_gj, v_q d_gj ≤ v_j d_gq
  have h1 := mul_mono dq (Int.le_trans e1 e2)
  have h2 := mul_mono dp e3
  refine mul_cut (v := dv a b (g j - 1)) (by omega) ?_
  rw [show dv a b (g j - 1) * (vs.getD q 0 * dv a b (f p - 1)) = dv a b (f p - 1) * (vs.getD q 0 * dv a b (g j - 1)) by ac_rfl]
  refine Int.le_trans h2 ?_
  rw [show dv a b (f p - 1) * (vs.getD j 0 * dv a b (g q - 1)) = dv a b (g q - 1) * (vs.getD j 0 * dv a b (f p - 1)) by ac_rfl]
  refine Int.le_trans h1 ?_
  rw [show dv a b (g q - 1) * (vs.getD p 0 * dv a b (g j - 1)) = dv a b (g j - 1) * (vs.getD p 0 * dv a b (g q - 1)) by ac_rfl]
  exact Int.le_refl _
/-- each table between the fewest and the most, with all the seats, is a result -/
theorem between_res (hb : 1 ≤ b) {t : Nat → Nat} (hs : fsum vs.length t = s) (lo : ∀ j < vs.length, ∃ g, ResF vs s a b g ∧ g j ≤ t j) (hi : ∀ i < vs.length, ∃ f, ResF vs s a b f ∧ t i ≤ f i) : ResF vs s a b t := by
  refine ⟨hs, fun p hp v => ?_, fun i hi' j hj ti vj => ?_⟩
  · obtain ⟨f, F, h⟩ := hi p hp
    have := F.idle p hp v
    omega
  · obtain ⟨f, F, h1⟩ := hi i hi'
    obtain ⟨g, G, h2⟩ := lo j hj
    have e := F.cross hb G hi' hj (by omega) vj
    have vi := F.vpos hi' (by omega)
    have e1 := mul_mono (Int.le_of_lt vj) (dv_mono (a := a) hb (show t i - 1 ≤ f i - 1 by omega))
    have e2 := mul_mono (Int.le_of_lt vi) (dv_mono (a := a) hb h2)
    omega
end
end Q
end

section
set_option linter.all false
set_option maxRecDepth 100000
set_option maxHeartbeats 4000000
set_option autoImplicit false
/-! the least votes by which a table is a result (no program in sight) -/
namespace Q
open DL M
/-! ### fractions in lowest terms -/
def lowP (x y : Int) : Int × Int := (x / (Int.gcd x y : Nat), y / (Int.gcd x y : Nat))
def pLt (p q : Int × Int) : Prop := p.1 * q.2 < q.1 * p.2
instance (p q : Int × Int) : Decidable (pLt p q) := inferInstanceAs (Decidable (_ < _))
theorem lowP_ok {x y : Int} (hx : 0 ≤ x) (hy : 0 < y) : 0 ≤ (lowP x y).1 ∧ 0 < (lowP x y).2 ∧ (lowP x y).1 ≤ x ∧ (lowP x y).2 ≤ y ∧ (lowP x y).1 * y = x * (lowP x y).2 := by
  have g0 : 0 < Int.gcd x y := Int.gcd_pos_of_ne_zero_right x (by omega)
  have e1 := Int.ediv_mul_cancel (Int.gcd_dvd_left x y)
  have e2 := Int.ediv_mul_cancel (Int.gcd_dvd_right x y)
  have p2 : 0 < y / (Int.gcd x y : Int) := by
    refine Classical.byContradiction fun z => ?_
    have := Int.mul_le_mul_of_nonneg_right (show y / (Int.gcd x y : Int) ≤ 0 by omega) (show (0 : Int) ≤ (Int.gcd x y : Int) by omega)
    rw [e2] at this
    omega
  refine ⟨Int.ediv_nonneg hx (by omega), p2, Int.ediv_le_self _ hx, Int.ediv_le_self _ (by omega), ?_⟩
  show x / (Int.gcd x y : Int) * y = x * (y / (Int.gcd x y : Int))
  generalize (Int.gcd x y : Int) = g at *
  generalize x / g = u at *
  generalize y / g = v at *
  subst e1 e2
  ac_rfl
/-! ### rounded up -/
def cl (x d : Int) : Int := -(-x / d)
theorem cl_ge {x d : Int} (hd : 0 < d) : x ≤ cl x d * d := by
  have := Int.ediv_mul_le (-x) (show d ≠ 0 by omega)
  unfold cl
  rw [Int.neg_mul]
  omega
theorem cl_le {x d u : Int} (hd : 0 < d) (h : x ≤ u * d) : cl x d ≤ u := by
  have := Int.le_ediv_of_mul_le (a := -u) (b := -x) hd (by rw [Int.neg_mul]; omega)
  unfold cl
  omega
theorem cl_0 {d : Int} : cl 0 d = 0 := by simp [cl]
/-! ### sums -/
theorem sum_getD_le : ∀ {ws us : List Int}, ws.length = us.length → (∀ i < ws.length, ws.getD i 0 ≤ us.getD i 0) → ws.sum ≤ us.sum ∧ (ws ≠ us → ws.sum < us.sum)
  | [], [], _, _ => ⟨Int.le_refl _, fun h => absurd rfl h⟩
  | [], _ :: _, h, _ => by simp at h
  | _ :: _, [], h, _ => by simp at h
  | w :: ws, u :: us, h, k => by
    have h0 : w ≤ u := k 0 (by simp)
    obtain ⟨i1, i2⟩ := sum_getD_le (ws := ws) (us := us) (by simpa using h) fun i hi => k (i + 1) (by simpa using hi)
    rw [List.sum_cons, List.sum_cons]
    refine ⟨by omega, fun hne => ?_⟩
    by_cases e : ws = us
    · subst e
      have : w ≠ u := fun z => hne (by rw [z])
      omega
    · have := i2 e
      omega
section
variable {vs ws us : List Int} {s : Nat} {a b : Int} {f : Nat → Nat} {p q : Int × Int}
/-- votes by which all stand: each party's pay for its seats, none's for a seat more -/
structure Stab (vs ws : List Int) (a b : Int) (f : Nat → Nat) : Prop where
  len : ws.length = vs.length
  le : ∀ i < vs.length, vs.getD i 0 ≤ ws.getD i 0
  fair : ∀ i < vs.length, ∀ j < vs.length, 0 < f i → ws.getD j 0 * dv a b (f i - 1) ≤ ws.getD i 0 * dv a b (f j)
structure Need (vs : List Int) (a b : Int) (f : Nat → Nat) (w : List Int) : Prop where
  st : Stab vs w a b f
  least : ∀ u, Stab vs u a b f → ∀ i < vs.length, w.getD i 0 ≤ u.getD i 0
theorem eq_getD : ∀ {ws us : List Int}, ws.length = us.length → (∀ i < ws.length, ws.getD i 0 = us.getD i 0) → ws = us
  | [], [], _, _ => rfl
  | [], _ :: _, h, _ => by simp at h
  | _ :: _, [], h, _ => by simp at h
  | w :: ws, u :: us, h, k => by
    have h0 : w = u := k 0 (by simp)
    rw [h0, eq_getD (ws := ws) (us := us) (by simpa using h) fun i hi => k (i + 1) (by simpa using hi)]
theorem Need.one {w u : List Int} (h : Need vs a b f w) (k : Need vs a b f u) : w = u := by
  refine eq_getD (by rw [h.st.len, k.st.len]) fun i hi => ?_
  rw [h.st.len] at hi
  have h1 := h.least u k.st i hi
  have h2 := k.least w h.st i hi
  omega
theorem dv_pos' (ha : 1 ≤ a) (hb : 0 ≤ b) (k : Nat) : 1 ≤ dv a b k := by
  unfold dv
  have := Int.mul_nonneg hb (show (0 : Int) ≤ k by omega)
  omega
theorem Stab.pos (h : Stab vs us a b f) (ha : 1 ≤ a) (hb : 0 ≤ b) (lo : ∀ v ∈ vs, 0 ≤ v) (hp : ∃ v ∈ vs, 0 < v) {i : Nat} (hi : i < vs.length) (fi : 0 < f i) : 0 < us.getD i 0 := by
  obtain ⟨v, hv, v0⟩ := hp
  obtain ⟨j, hj, rfl⟩ := List.mem_iff_getElem.mp hv
  have e : vs.getD j 0 = vs[j] := by rw [List.getD_eq_getElem?_getD, List.getElem?_eq_getElem hj]; rfl
  have h1 := h.le j hj
  have h2 := h.fair i hi j hj fi
  have d1 := dv_pos' (b := b) ha hb (f i - 1)
  have d2 := dv_pos' (b := b) ha hb (f j)
  have h3 : 0 < us.getD j 0 * dv a b (f i - 1) := Int.mul_pos (by omega) (by omega)
  refine Classical.byContradiction fun z => ?_
  have := Int.mul_le_mul_of_nonneg_right (show us.getD i 0 ≤ 0 by omega) (show 0 ≤ dv a b (f j) by omega)
  rw [Int.zero_mul] at this
  omega
/-- .. then the table is a result of them -/
theorem Stab.res (h : Stab vs us a b f) (ha : 1 ≤ a) (hb : 0 ≤ b) (lo : ∀ v ∈ vs, 0 ≤ v) (hp : ∃ v ∈ vs, 0 < v) (hs : fsum vs.length f = s) : ResF us s a b f := by
  refine ⟨by rw [h.len]; exact hs, fun p hp' z => ?_, fun i hi j hj fi _ => ?_⟩
  · rw [h.len] at hp'
    refine Classical.byContradiction fun y => ?_
    exact z (h.pos ha hb lo hp hp' (by omega))
  · rw [h.len] at hi hj
    exact h.fair i hi j hj fi
theorem ResF.stab (F : ResF us s a b f) (ha : 1 ≤ a) (hb : 0 ≤ b) (hl : us.length = vs.length) (h0 : ∀ i < vs.length, 0 ≤ us.getD i 0) (hle : ∀ i < vs.length, vs.getD i 0 ≤ us.getD i 0) : Stab vs us a b f := by
  refine ⟨hl, hle, fun i hi j hj fi => ?_⟩
  by_cases z : 0 < us.getD j 0
  · exact F.fair i (by omega) j (by omega) fi z
  · have z : us.getD j 0 = 0 := by have := h0 j hj; omega
    rw [z, Int.zero_mul]
    have := dv_pos' (b := b) ha hb (f j)
    exact Int.mul_nonneg (h0 i hi) (by omega)
/-! ### the least price by which none has a claim to more -/
def lpStep (a b : Int) (f : Nat → Nat) (ws : List Int) (p : Int × Int) (i : Nat) : Int × Int := if pLt p (lowP (ws.getD i 0) (dv a b (f i))) then lowP (ws.getD i 0) (dv a b (f i)) else p
def leastP (a b : Int) (f : Nat → Nat) (ws : List Int) : Int × Int := (List.range ws.length).foldl (lpStep a b f ws) (0, 1)
structure LP (a b : Int) (f : Nat → Nat) (ws : List Int) (k : Nat) (p : Int × Int) : Prop where
  n0 : 0 ≤ p.1
  d0 : 0 < p.2
  all : ∀ i < k, ws.getD i 0 * p.2 ≤ p.1 * dv a b (f i)
  att : p = (0, 1) ∨ ∃ i < k, p = lowP (ws.getD i 0) (dv a b (f i))
theorem lp_step (ha : 1 ≤ a) (hb : 0 ≤ b) (h0 : ∀ i < ws.length, 0 ≤ ws.getD i 0) {k : Nat} (hk : k < ws.length) (h : LP a b f ws k p) : LP a b f ws (k + 1) (lpStep a b f ws p k) := by
  have hd := dv_pos' (b := b) ha hb (f k)
  obtain ⟨q0, q1, _, _, q4⟩ := lowP_ok (h0 k hk) (show 0 < dv a b (f k) by omega)
  have hq : ∃ q, q = lowP (ws.getD k 0) (dv a b (f k)) := ⟨_, rfl⟩
  obtain ⟨q, hq⟩ := hq
  unfold lpStep
  rw [← hq] at q0 q1 q4 ⊢
  by_cases z : pLt p q
  · rw [if_pos z]
    refine ⟨q0, q1, fun i hi => ?_, .inr ⟨k, by omega, hq⟩⟩
    by_cases y : i = k
    · subst y
      rw [← q4]
      exact Int.le_refl _
    · have h1 := h.all i (by omega)
      have di := dv_pos' (b := b) ha hb (f i)
      -- w p2 <= p1 d, p1 q2 < q1 p2
      have h2 := Int.mul_le_mul_of_nonneg_right h1 (show 0 ≤ q.2 by omega)
      have h3 := Int.mul_le_mul_of_nonneg_right (Int.le_of_lt z) (show 0 ≤ dv a b (f i) by omega)
      refine Int.le_of_mul_le_mul_right (a := p.2) ?_ h.d0
      rw [show ws.getD i 0 * q.2 * p.2 = ws.getD i 0 * p.2 * q.2 by ac_rfl, show q.1 * dv a b (f i) * p.2 = q.1 * p.2 * dv a b (f i) by ac_rfl]
      refine Int.le_trans h2 ?_
      rw [show p.1 * dv a b (f i) * q.2 = p.1 * q.2 * dv a b (f i) by ac_rfl]
      exact h3
  · rw [if_neg z]
    refine ⟨h.n0, h.d0, fun i hi => ?_, h.att.imp id fun ⟨i, hi, e⟩ => ⟨i, by omega, e⟩⟩
    by_cases y : i = k
    · subst y
      have z : q.1 * p.2 ≤ p.1 * q.2 := Int.not_lt.mp z
      have h3 := Int.mul_le_mul_of_nonneg_right z (show 0 ≤ dv a b (f i) by omega)
      refine Int.le_of_mul_le_mul_right (a := q.2) ?_ q1
      rw [show ws.getD i 0 * p.2 * q.2 = ws.getD i 0 * q.2 * p.2 by ac_rfl, ← q4, show q.1 * dv a b (f i) * p.2 = q.1 * p.2 * dv a b (f i) by ac_rfl]
      refine Int.le_trans h3 ?_
      rw [show p.1 * q.2 * dv a b (f i) = p.1 * dv a b (f i) * q.2 by ac_rfl]
      exact Int.le_refl _
    · exact h.all i (by omega)
theorem lp_upto (ha : 1 ≤ a) (hb : 0 ≤ b) (h0 : ∀ i < ws.length, 0 ≤ ws.getD i 0) : ∀ k, k ≤ ws.length → LP a b f ws k ((List.range k).foldl (lpStep a b f ws) (0, 1))
  | 0, _ => ⟨Int.le_refl _, (by decide : (0 : Int) < 1), fun i hi => by omega, .inl rfl⟩
  | k + 1, hk => by
    rw [List.range_succ, List.foldl_append]
    exact lp_step ha hb h0 (by omega) (lp_upto ha hb h0 k (by omega))
theorem least_ok (ha : 1 ≤ a) (hb : 0 ≤ b) (h0 : ∀ i < ws.length, 0 ≤ ws.getD i 0) : LP a b f ws ws.length (leastP a b f ws) := lp_upto ha hb h0 _ (Nat.le_refl _)
/-- a price that such votes stand -/
def Under (vs : List Int) (a b : Int) (f : Nat → Nat) (p : Int × Int) (us : List Int) : Prop := ∀ i < vs.length, 0 < f i → dv a b (f i - 1) * p.1 ≤ us.getD i 0 * p.2
theorem under_least (ha : 1 ≤ a) (hb : 0 ≤ b) (U : Stab vs us a b f) (u0 : ∀ i < vs.length, 0 ≤ us.getD i 0) (hl : ws.length = vs.length) (hle : ∀ i < vs.length, ws.getD i 0 ≤ us.getD i 0) (h0 : ∀ i < ws.length, 0 ≤ ws.getD i 0) (h : LP a b f ws ws.length p) : Under vs a b f p us := by
  intro i hi fi
  rcases h.att with e | ⟨j, hj, e⟩
  · rw [e]
    have := u0 i hi
    simp only [Int.mul_zero, Int.mul_one]
    exact this
  · have hj' : j < vs.length := by omega
    have hd := dv_pos' (b := b) ha hb (f j)
    obtain ⟨q0, q1, _, _, q4⟩ := lowP_ok (h0 j hj) (show 0 < dv a b (f j) by omega)
    rw [← e] at q0 q1 q4
    have h1 := U.fair i hi j hj' fi
    have h2 := hle j hj'
    have d2 := dv_pos' (b := b) ha hb (f i - 1)
    refine Int.le_of_mul_le_mul_right (a := dv a b (f j)) ?_ (by omega)
    rw [show dv a b (f i - 1) * p.1 * dv a b (f j) = p.1 * dv a b (f j) * dv a b (f i - 1) by ac_rfl, q4]
    have h3 := Int.mul_le_mul_of_nonneg_right h2 (show 0 ≤ dv a b (f i - 1) * p.2 from Int.mul_nonneg (by omega) (by omega))
    have h4 := Int.mul_le_mul_of_nonneg_right h1 (show 0 ≤ p.2 by omega)
    rw [show ws.getD j 0 * p.2 * dv a b (f i - 1) = ws.getD j 0 * (dv a b (f i - 1) * p.2) by ac_rfl]
    refine Int.le_trans h3 ?_
    rw [show us.getD j 0 * (dv a b (f i - 1) * p.2) = us.getD j 0 * dv a b (f i - 1) * p.2 by ac_rfl]
    refine Int.le_trans h4 ?_
    rw [show us.getD i 0 * dv a b (f j) * p.2 = us.getD i 0 * p.2 * dv a b (f j) by ac_rfl]
    exact Int.le_refl _
/-! ### the votes at a price -/
def atV (vs : List Int) (a b : Int) (f : Nat → Nat) (p : Int × Int) (i : Nat) : Int := max (vs.getD i 0) (cl (if 0 < f i then dv a b (f i - 1) * p.1 else 0) p.2)
def atW (vs : List Int) (a b : Int) (f : Nat → Nat) (p : Int × Int) : List Int := (List.range vs.length).map (atV vs a b f p)
theorem atW_len : (atW vs a b f p).length = vs.length := by simp [atW]
theorem atW_get {i : Nat} (hi : i < vs.length) : (atW vs a b f p).getD i 0 = atV vs a b f p i := by
  unfold atW
  rw [List.getD_eq_getElem?_getD, List.getElem?_map, List.getElem?_range hi]
  rfl
theorem atW_ge {i : Nat} (hi : i < vs.length) : vs.getD i 0 ≤ (atW vs a b f p).getD i 0 := by
  rw [atW_get hi]
  unfold atV
  omega
theorem atW_le (hd : 0 < p.2) (h0 : ∀ i < vs.length, 0 ≤ us.getD i 0) (hle : ∀ i < vs.length, vs.getD i 0 ≤ us.getD i 0) (h : Under vs a b f p us) {i : Nat} (hi : i < vs.length) : (atW vs a b f p).getD i 0 ≤ us.getD i 0 := by
  rw [atW_get hi]
  unfold atV
  have h1 := hle i hi
  have h2 : cl (if 0 < f i then dv a b (f i - 1) * p.1 else 0) p.2 ≤ us.getD i 0 := by
    by_cases z : 0 < f i
    · rw [if_pos z]
      exact cl_le hd (h i hi z)
    · rw [if_neg z, cl_0]
      exact h0 i hi
  omega
theorem atW_mono (ha : 1 ≤ a) (hb : 0 ≤ b) (hd : 0 < p.2) (hd' : 0 < q.2) (h : pLt p q) {i : Nat} (hi : i < vs.length) : (atW vs a b f p).getD i 0 ≤ (atW vs a b f q).getD i 0 := by
  rw [atW_get hi, atW_get hi]
  unfold atV
  have h2 : cl (if 0 < f i then dv a b (f i - 1) * p.1 else 0) p.2 ≤ cl (if 0 < f i then dv a b (f i - 1) * q.1 else 0) q.2 := by
    by_cases z : 0 < f i
    · rw [if_pos z, if_pos z]
      refine cl_le hd ?_
      have h1 := cl_ge (x := dv a b (f i - 1) * q.1) hd'
      generalize cl (dv a b (f i - 1) * q.1) q.2 = u at *
      have dp := dv_pos' (b := b) ha hb (f i - 1)
      refine Int.le_of_mul_le_mul_right (a := q.2) ?_ hd'
      have h3 := Int.mul_le_mul_of_nonneg_left (Int.le_of_lt h) (show 0 ≤ dv a b (f i - 1) by omega)
      have h4 := Int.mul_le_mul_of_nonneg_right h1 (show 0 ≤ p.2 by omega)
      rw [show dv a b (f i - 1) * p.1 * q.2 = dv a b (f i - 1) * (p.1 * q.2) by ac_rfl]
      refine Int.le_trans h3 ?_
      rw [show dv a b (f i - 1) * (q.1 * p.2) = dv a b (f i - 1) * q.1 * p.2 by ac_rfl]
      refine Int.le_trans h4 ?_
      rw [show u * q.2 * p.2 = u * p.2 * q.2 by ac_rfl]
      exact Int.le_refl _
    · rw [if_neg z, if_neg z, cl_0, cl_0]
      exact Int.le_refl _
  omega
/-- where the price goes no higher all stand -/
theorem atW_stab (ha : 1 ≤ a) (hb : 0 ≤ b) (lo : ∀ i < vs.length, 0 ≤ vs.getD i 0) (hn : 0 ≤ p.1) (hd : 0 < p.2) (hq : LP a b f (atW vs a b f p) (atW vs a b f p).length q) (h : ¬ pLt p q) : Stab vs (atW vs a b f p) a b f := by
  refine ⟨atW_len, fun i hi => atW_ge hi, fun i hi j hj fi => ?_⟩
  have h1 := hq.all j (by rw [atW_len]; exact hj)
  have h2 : dv a b (f i - 1) * p.1 ≤ (atW vs a b f p).getD i 0 * p.2 := by
    rw [atW_get hi]
    unfold atV
    rw [if_pos fi]
    refine Int.le_trans (cl_ge hd) (Int.mul_le_mul_of_nonneg_right ?_ (by omega))
    omega
  have h3 : q.1 * p.2 ≤ p.1 * q.2 := Int.not_lt.mp h
  generalize (atW vs a b f p).getD i 0 = wi at *
  generalize (atW vs a b f p).getD j 0 = wj at *
  have d1 := dv_pos' (b := b) ha hb (f i - 1)
  have d2 := dv_pos' (b := b) ha hb (f j)
  refine Int.le_of_mul_le_mul_right (a := q.2 * p.2) ?_ (Int.mul_pos hq.d0 hd)
  have e1 := Int.mul_le_mul_of_nonneg_right h1 (show 0 ≤ dv a b (f i - 1) * p.2 from Int.mul_nonneg (by omega) (by omega))
  have e2 := Int.mul_le_mul_of_nonneg_right h3 (show 0 ≤ dv a b (f i - 1) * dv a b (f j) from Int.mul_nonneg (by omega) (by omega))
  have e3 := Int.mul_le_mul_of_nonneg_right h2 (show 0 ≤ dv a b (f j) * q.2 from Int.mul_nonneg (by omega) (by have := hq.d0; omega))
  rw [show wj * dv a b (f i - 1) * (q.2 * p.2) = wj * q.2 * (dv a b (f i - 1) * p.2) by ac_rfl]
  refine Int.le_trans e1 ?_
  rw [show q.1 * dv a b (f j) * (dv a b (f i - 1) * p.2) = q.1 * p.2 * (dv a b (f i - 1) * dv a b (f j)) by ac_rfl]
  refine Int.le_trans e2 ?_
  rw [show p.1 * q.2 * (dv a b (f i - 1) * dv a b (f j)) = dv a b (f i - 1) * p.1 * (dv a b (f j) * q.2) by ac_rfl]
  refine Int.le_trans e3 ?_
  rw [show wi * p.2 * (dv a b (f j) * q.2) = wi * dv a b (f j) * (q.2 * p.2) by ac_rfl]
  exact Int.le_refl _
/-! ### there are such votes -/
def wide (vs : List Int) (a b : Int) (f : Nat → Nat) (i : Nat) : Int := if 0 < f i then 1000 * dv a b (f i - 1) else vs.getD i 0
theorem wide_stab (ha : 1 ≤ a) (hb : 0 ≤ b) (lo : ∀ i < vs.length, 0 ≤ vs.getD i 0) (hi : ∀ i < vs.length, vs.getD i 0 ≤ 1000) : Stab vs ((List.range vs.length).map (wide vs a b f)) a b f := by
  have g : ∀ i, i < vs.length → ((List.range vs.length).map (wide vs a b f)).getD i 0 = wide vs a b f i := fun i h => by
    rw [List.getD_eq_getElem?_getD, List.getElem?_map, List.getElem?_range h]
    rfl
  refine ⟨by simp, fun i h => ?_, fun i h j hj fi => ?_⟩
  · rw [g i h]
    unfold wide
    split
    · have := dv_pos' (b := b) ha hb (f i - 1)
      have := hi i h
      omega
    · omega
  · rw [g i h, g j hj]
    have di := dv_pos' (b := b) ha hb (f i - 1)
    have dj := dv_pos' (b := b) ha hb (f j)
    -- the other's votes are no more than 1000 times its next divisor
    have h1 : wide vs a b f j ≤ 1000 * dv a b (f j) := by
      unfold wide
      split
      · have : dv a b (f j - 1) ≤ dv a b (f j) := by
          unfold dv
          have := Int.mul_le_mul_of_nonneg_left (show (((f j - 1 : Nat) : Int)) ≤ ((f j : Nat) : Int) by omega) hb
          omega
        omega
      · have := hi j hj
        omega
    have h2 : wide vs a b f i = 1000 * dv a b (f i - 1) := by
      unfold wide
      rw [if_pos fi]
    rw [h2]
    refine Int.le_trans (Int.mul_le_mul_of_nonneg_right h1 (by omega)) ?_
    rw [show 1000 * dv a b (f j) * dv a b (f i - 1) = 1000 * dv a b (f i - 1) * dv a b (f j) by ac_rfl]
    exact Int.le_refl _
theorem wide_bd (ha : 1 ≤ a) (a9 : a ≤ 9) (hb : 0 ≤ b) (b9 : b ≤ 9) (lo : ∀ i < vs.length, 0 ≤ vs.getD i 0) (hi : ∀ i < vs.length, vs.getD i 0 ≤ 1000) (h15 : ∀ i < vs.length, f i ≤ 15) {i : Nat} (h : i < vs.length) : 0 ≤ wide vs a b f i ∧ wide vs a b f i ≤ 144000 := by
  unfold wide
  split
  · have d := dv_pos' (b := b) ha hb (f i - 1)
    have : dv a b (f i - 1) ≤ 144 := by
      unfold dv
      have h1 := h15 i h
      have h2 := Int.mul_le_mul_of_nonneg_left (show (((f i - 1 : Nat) : Int)) ≤ 14 by omega) hb
      omega
    omega
  · have := lo i h
    have := hi i h
    omega
end
end Q
end

section
set_option linter.all false
set_option maxRecDepth 100000
set_option maxHeartbeats 4000000
set_option autoImplicit false
/-! lists as values or in the store; all tuples of so many together -/
namespace M
open DL
def LstD (S : Sto) (d : D) (L : List D) : Prop := d = .lst L ∨ ∃ k, d = .cel k ∧ S[k]? = some (.lst L)
theorem LstD.app {S : Sto} {d : D} {L : List D} (h : LstD S d L) (J : Sto) : LstD (S ++ J) d L := by
  rcases h with rfl | ⟨k, rfl, e⟩
  · exact .inl rfl
  · exact .inr ⟨k, rfl, by rw [List.getElem?_append_left (List.getElem?_eq_some_iff.mp e).1]; exact e⟩
theorem for_lst {g : DGn} {b : DSn} {items : List D} {env : Env} {S S1 : Sto} {d : D} (h : LstD S d items) (P : Nat → Env → Sto → Prop) (h0 : P 0 env S1) (hext : ∀ i env S', P i env S' → ∃ J, S' = S ++ J)
    (step : ∀ i d env S, items[i]? = some d → P i env S → ∃ env' S', (turnOf g b d env S = .nx env' S' ∨ turnOf g b d env S = .cnt env' S') ∧ P (i + 1) env' S') :
    ∃ src, srcOf d S1 = .ok src S1 ∧ ∃ env' S', forN src g b src.n 0 env S1 = .nx env' S' ∧ P items.length env' S' := by
  rcases h with rfl | ⟨k, rfl, e⟩
  · exact ⟨.fix items, rfl, for_all P h0 step⟩
  · have hk : ∀ i env S', P i env S' → S'[k]? = some (.lst items) := fun i env S' hP => by
      obtain ⟨J, rfl⟩ := hext i env S' hP
      rw [List.getElem?_append_left (List.getElem?_eq_some_iff.mp e).1]
      exact e
    refine ⟨.cel k items.length, celE_it (hk _ _ _ h0), for_cel P h0 hk step⟩
theorem lc_lst {α : Type} {g : DGn} {t : DTn} {e : DEn} {env0 : Env} {xs : List α} {S : Sto} {d : D} (toD : α → D) (h : α → D) (hd : LstD S d (xs.map toD)) (hz : xs.length ≤ LIM)
    (step : ∀ x ∈ xs, ∃ env2, g (toD x) env0 S = .nx env2 S ∧ t env2 S = .ok true S ∧ e env2 S = .ok (h x) S) :
    ∃ src, srcOf d S = .ok src S ∧ lcN src g t e env0 src.n 0 [] S = .ok (xs.map h) S := by
  have hf : (xs.filter fun _ => true) = xs := List.filter_eq_self.mpr fun _ _ => rfl
  rcases hd with rfl | ⟨k, rfl, e1⟩
  · refine ⟨.fix (xs.map toD), rfl, ?_⟩
    have := lc_map (g := g) (t := t) (e := e) (env0 := env0) (xs := xs) (m := xs.length) (ds := xs.map toD) (S := S) (fun _ x => toD x) (fun _ => true) h rfl (by simp) (fun i x hx => by rw [List.getElem?_map, hx]; rfl) hz fun i x hx => by
      obtain ⟨env2, h1, h2, h3⟩ := step x (List.mem_of_getElem? hx)
      exact ⟨env2, h1, h2, fun _ => h3⟩
    rw [hf] at this
    simp only [fix_n, List.length_map]
    exact this
  · refine ⟨.cel k (xs.map toD).length, celE_it e1, ?_⟩
    have := lc_mapC (g := g) (t := t) (e := e) (env0 := env0) (xs := xs) (m := xs.length) (k := k) (S := S) toD (fun _ => true) h e1 rfl hz fun x hx => by
      obtain ⟨env2, h1, h2, h3⟩ := step x hx
      exact ⟨env2, h1, h2, fun _ => h3⟩
    rw [hf] at this
    simpa using this
end M
namespace Q
open DL M
/-! ### all tuples of so many together -/
abbrev WP : Type := List Int × Int
def wTurn (c : WP) : List WP := (List.range (c.2 + 1).toNat).map fun k => (c.1 ++ [((k : Nat) : Int)], c.2 - ((k : Nat) : Int))
def wStep (F : List WP) : List WP := F.flatMap wTurn
def wIter (many : Int) : Nat → List WP
  | 0 => [([], many)]
  | j + 1 => wStep (wIter many j)
def waysL (many : Int) (n : Nat) : List (List Int) := (wIter many (n - 1)).map fun c => c.1 ++ [c.2]
theorem wIter_iff {many : Int} (h0 : 0 ≤ many) : ∀ (j : Nat) (c : WP), c ∈ wIter many j ↔ c.1.length = j ∧ (∀ x ∈ c.1, 0 ≤ x) ∧ 0 ≤ c.2 ∧ c.1.sum + c.2 = many
  | 0, c => by
    obtain ⟨c, l⟩ := c
    simp only [wIter, List.mem_singleton, Prod.mk.injEq]
    constructor
    · rintro ⟨rfl, rfl⟩
      exact ⟨rfl, by simp, h0, by simp⟩
    · rintro ⟨h1, _, _, h2⟩
      have := List.length_eq_zero_iff.mp h1
      subst this
      refine ⟨rfl, ?_⟩
      simpa using h2
  | j + 1, c => by
    obtain ⟨c, l⟩ := c
    simp only [wIter, wStep, List.mem_flatMap, wTurn, List.mem_map, List.mem_range, Prod.mk.injEq]
    constructor
    · rintro ⟨⟨c', l'⟩, hc, k, hk, rfl, rfl⟩
      obtain ⟨h1, h2, h3, h4⟩ := (wIter_iff h0 j _).mp hc
      refine ⟨by simp [h1], fun x hx => ?_, by simp only at hk h3 ⊢; omega, ?_⟩
      · rcases List.mem_append.mp hx with h | h
        · exact h2 x h
        · rw [List.mem_singleton.mp h]
          omega
      · simp only at h4 ⊢
        rw [List.sum_append, List.sum_singleton]
        omega
    · rintro ⟨h1, h2, h3, h4⟩
      have hne : c ≠ [] := fun z => by rw [z] at h1; simp at h1
      have e : c.dropLast ++ [c.getLast hne] = c := List.dropLast_concat_getLast hne
      have hl : 0 ≤ c.getLast hne := h2 _ (List.getLast_mem hne)
      have hs : c.dropLast.sum + c.getLast hne = c.sum := by
        have := congrArg List.sum e
        rw [List.sum_append, List.sum_singleton] at this
        exact this
      refine ⟨(c.dropLast, l + c.getLast hne), (wIter_iff h0 j _).mpr ⟨by simp [h1], fun x hx => h2 x (List.dropLast_subset _ hx), by simp only; omega, by simp only; omega⟩, (c.getLast hne).toNat, by simp only; omega, ?_, by simp only; omega⟩
      rw [show (((c.getLast hne).toNat : Nat) : Int) = c.getLast hne by omega, e]
theorem waysL_iff {many : Int} (h0 : 0 ≤ many) {n : Nat} (hn : 1 ≤ n) (t : List Int) : t ∈ waysL many n ↔ t.length = n ∧ (∀ x ∈ t, 0 ≤ x) ∧ t.sum = many := by
  unfold waysL
  rw [List.mem_map]
  constructor
  · rintro ⟨⟨c, l⟩, hc, rfl⟩
    obtain ⟨h1, h2, h3, h4⟩ := (wIter_iff h0 _ _).mp hc
    simp only at h1 h2 h3 h4 ⊢
    refine ⟨by simp [h1]; omega, fun x hx => ?_, by rw [List.sum_append, List.sum_singleton]; exact h4⟩
    rcases List.mem_append.mp hx with h | h
    · exact h2 x h
    · rw [List.mem_singleton.mp h]
      exact h3
  · rintro ⟨h1, h2, h3⟩
    have hne : t ≠ [] := fun z => by rw [z] at h1; simp at h1; omega
    have e : t.dropLast ++ [t.getLast hne] = t := List.dropLast_concat_getLast hne
    have hs : t.dropLast.sum + t.getLast hne = t.sum := by
      have := congrArg List.sum e
      rw [List.sum_append, List.sum_singleton] at this
      exact this
    exact ⟨(t.dropLast, t.getLast hne), (wIter_iff h0 _ _).mpr ⟨by simp [h1], fun x hx => h2 x (List.dropLast_subset _ hx), h2 _ (List.getLast_mem hne), by rw [hs]; exact h3⟩, e⟩
theorem wStep_len {F : List WP} {many : Int} (h0 : 0 ≤ many) (h : ∀ c ∈ F, 0 ≤ c.2 ∧ c.2 ≤ many) : (wStep F).length ≤ F.length * (many + 1).toNat := by
  unfold wStep
  induction F with
  | nil => simp
  | cons c F ih =>
    have h1 := ih fun x hx => h x (List.mem_cons_of_mem _ hx)
    have h2 := h c List.mem_cons_self
    have h3 : (wTurn c).length ≤ (many + 1).toNat := by
      unfold wTurn
      rw [List.length_map, List.length_range]
      omega
    rw [List.flatMap_cons, List.length_append, List.length_cons, Nat.add_mul]
    omega
theorem wIter_bd {many : Int} (h0 : 0 ≤ many) {j : Nat} {c : WP} (hc : c ∈ wIter many j) : 0 ≤ c.2 ∧ c.2 ≤ many ∧ c.1.length = j := by
  obtain ⟨h1, h2, h3, h4⟩ := (wIter_iff h0 _ _).mp hc
  have : ∀ l : List Int, (∀ x ∈ l, 0 ≤ x) → 0 ≤ l.sum := fun l => by
    induction l with
    | nil => intro _; simp
    | cons x l ih =>
      intro h
      have := ih fun y hy => h y (List.mem_cons_of_mem _ hy)
      have := h x List.mem_cons_self
      rw [List.sum_cons]
      omega
  have := this _ h2
  omega
theorem wIter_len {many : Int} (h0 : 0 ≤ many) (h15 : many ≤ 15) : ∀ j, (wIter many j).length ≤ 16 ^ j
  | 0 => by simp [wIter]
  | j + 1 => by
    have h1 := wStep_len h0 fun c hc => ⟨(wIter_bd h0 hc).1, (wIter_bd (j := j) h0 hc).2.1⟩
    have h2 := wIter_len h0 h15 j
    have h3 := Nat.mul_le_mul h2 (show (many + 1).toNat ≤ 16 by omega)
    rw [Nat.pow_succ]
    exact Nat.le_trans h1 h3
end Q
end

section
set_option linter.all false
set_option maxRecDepth 100000
set_option maxHeartbeats 4000000
set_option autoImplicit false
/-! comprehensions with a test that change the store; distinct keys among few; dicts put -/
namespace M
open DL
theorem lc_stf {α : Type} {g : DGn} {t : DTn} {e : DEn} {env0 : Env} {xs : List α} {ds : List D} {S : Sto} (P : Sto → Prop) (toD : α → D) (p : α → Bool) (h : α → D) (hds : ds = xs.map toD) (h0 : P S) (hz : xs.length ≤ LIM)
    (step : ∀ x ∈ xs, ∀ S, P S → ∃ env2, g (toD x) env0 S = .nx env2 S ∧ t env2 S = .ok (p x) S ∧ (p x = true → ∃ S', e env2 S = .ok (h x) S' ∧ P S')) :
    ∃ S', lcN (.fix ds) g t e env0 xs.length 0 [] S = .ok ((xs.filter p).map h) S' ∧ P S' := by
  subst hds
  have key : ∀ (k i : Nat) (acc : List D) (S : Sto), k + i = xs.length → acc.length ≤ i → P S → ∃ S', lcN (.fix (xs.map toD)) g t e env0 k i acc S = .ok (acc ++ ((xs.drop i).filter p).map h) S' ∧ P S' := by
    intro k
    induction k with
    | zero =>
      intro i acc S hk ha hp
      have hc : (Src.fix (xs.map toD)).cur S i = .stop := by
        show Cur.of (xs.map toD)[i]? = _
        rw [List.getElem?_eq_none (by rw [List.length_map]; omega)]
        rfl
      refine ⟨S, ?_, hp⟩
      rw [List.drop_eq_nil_of_le (by omega)]
      simp [lcN, hc]
    | succ k ih =>
      intro i acc S hk ha hp
      have hi : i < xs.length := by omega
      have hc : (Src.fix (xs.map toD)).cur S i = .it (toD xs[i]) := by
        show Cur.of (xs.map toD)[i]? = _
        rw [List.getElem?_map, List.getElem?_eq_getElem hi]
        rfl
      obtain ⟨env2, h1, h2, h3⟩ := step xs[i] (List.getElem_mem hi) S hp
      have hA : acc.length < LIM := by omega
      rw [List.drop_eq_getElem_cons hi]
      cases hpx : p xs[i] with
      | false =>
        obtain ⟨S2, e2, p2⟩ := ih (i + 1) acc S (by omega) (by omega) hp
        refine ⟨S2, ?_, p2⟩
        rw [List.filter_cons_of_neg (by simp [hpx])]
        rw [hpx] at h2
        simp [lcN, hc, h1, h2, e2, Res.nox]
      | true =>
        obtain ⟨S', h4, h5⟩ := h3 hpx
        obtain ⟨S2, e2, p2⟩ := ih (i + 1) (acc ++ [h xs[i]]) S' (by omega) (by simp; omega) h5
        refine ⟨S2, ?_, p2⟩
        rw [List.filter_cons_of_pos hpx, List.map_cons]
        rw [hpx] at h2
        simp [lcN, hc, h1, h2, h4, hA, e2, Res.nox]
  obtain ⟨S', e1, p1⟩ := key xs.length 0 [] S (by omega) (Nat.le_refl _) h0
  exact ⟨S', by simpa using e1, p1⟩
theorem nodup_le {α : Type} [DecidableEq α] : ∀ {l m : List α}, l.Nodup → (∀ x ∈ l, x ∈ m) → l.length ≤ m.length
  | [], _, _, _ => Nat.zero_le _
  | x :: l, m, hn, hs => by
    have h1 : x ∈ m := hs x List.mem_cons_self
    have hn := List.nodup_cons.mp hn
    have ih := nodup_le (l := l) (m := m.erase x) hn.2 fun y hy => (List.mem_erase_of_ne (fun z => hn.1 (by rw [← z]; exact hy))).mpr (hs y (List.mem_cons_of_mem _ hy))
    rw [List.length_erase_of_mem h1] at ih
    have : 0 < m.length := List.length_pos_of_mem h1
    rw [List.length_cons]
    omega
/-! ### dicts -/
theorem dAt_key : ∀ {ks : List (List Int)} {ds : List D} {j : List Int}, ks.length = ds.length → (j ∈ ks ↔ ∃ d, dAt ks ds j = some d)
  | [], [], j, _ => by simp [dAt]
  | [], _ :: _, _, h => by simp at h
  | _ :: _, [], _, h => by simp at h
  | k :: ks, d :: ds, j, h => by
    rw [dAt, List.mem_cons]
    by_cases e : k = j
    · rw [if_pos e]
      exact ⟨fun _ => ⟨d, rfl⟩, fun _ => .inl e.symm⟩
    · rw [if_neg e, ← dAt_key (by simpa using h)]
      exact ⟨fun z => z.resolve_left fun y => e y.symm, .inr⟩
theorem put_len {ks : List (List Int)} {ds : List D} (j : List Int) (d : D) (h : ks.length = ds.length) : (putKs ks j).length = (putDs ks ds j d).length := by
  unfold putKs putDs
  by_cases e : j ∈ ks
  · rw [if_pos e, if_pos e, List.length_zipWith]
    omega
  · rw [if_neg e, if_neg e, List.length_append, List.length_append]
    simp [h]
theorem dAt_put {d : D} {j : List Int} : ∀ {ks : List (List Int)} {ds : List D} (i : List Int), ks.length = ds.length → dAt (putKs ks j) (putDs ks ds j d) i = if i = j then some d else dAt ks ds i := by
  intro ks ds i h
  unfold putKs putDs
  by_cases e : j ∈ ks
  · rw [if_pos e, if_pos e]
    have key : ∀ {ks : List (List Int)} {ds : List D}, ks.length = ds.length → dAt ks (List.zipWith (fun k e => if k = j then d else e) ks ds) i = if i = j then (dAt ks ds i).map fun _ => d else dAt ks ds i := by
      intro ks
      induction ks with
      | nil =>
        intro ds _
        split <;> rfl
      | cons k ks ih =>
        intro ds h
        cases ds with
        | nil => simp at h
        | cons d0 ds =>
          rw [List.zipWith_cons_cons, dAt, dAt, ih (by simpa using h)]
          by_cases z : k = i
          · rw [if_pos z, if_pos z]
            by_cases y : i = j
            · rw [if_pos y, if_pos (z.trans y)]
              rfl
            · rw [if_neg y, if_neg (fun x => y (z.symm.trans x))]
          · rw [if_neg z, if_neg z]
    rw [key h]
    by_cases y : i = j
    · rw [if_pos y, if_pos y]
      subst y
      obtain ⟨d1, e1⟩ := (dAt_key h).mp e
      rw [e1]
      rfl
    · rw [if_neg y, if_neg y]
  · rw [if_neg e, if_neg e]
    induction ks generalizing ds with
    | nil =>
      cases ds with
      | nil =>
        by_cases y : i = j
        · rw [if_pos y]
          simp [dAt, y]
        · rw [if_neg y]
          have : ¬ j = i := fun z => y z.symm
          simp [dAt, this]
      | cons _ _ => simp at h
    | cons k ks ih =>
      cases ds with
      | nil => simp at h
      | cons d0 ds =>
        have hk : ¬ k = j := fun z => e (by rw [z]; exact List.mem_cons_self)
        rw [List.cons_append, List.cons_append, dAt, dAt, ih (by simpa using h) fun z => e (List.mem_cons_of_mem _ z)]
        by_cases z : k = i
        · rw [if_pos z, if_pos z, if_neg (fun y => hk (z.trans y))]
        · rw [if_neg z, if_neg z]
theorem putKs_nodup {ks : List (List Int)} {j : List Int} (h : ks.Nodup) : (putKs ks j).Nodup := by
  unfold putKs
  by_cases e : j ∈ ks
  · rw [if_pos e]
    exact h
  · rw [if_neg e, List.nodup_append]
    exact ⟨h, by simp, fun x hx y hy => by rw [List.mem_singleton.mp hy]; exact fun z => e (by rw [← z]; exact hx)⟩
theorem mem_putKs {ks : List (List Int)} {i j : List Int} : i ∈ putKs ks j ↔ i ∈ ks ∨ i = j := by
  unfold putKs
  by_cases e : j ∈ ks
  · rw [if_pos e]
    exact ⟨.inl, fun z => z.elim id fun y => by rw [y]; exact e⟩
  · rw [if_neg e, List.mem_append, List.mem_singleton]
theorem dctOf_cel {S : Sto} {n : Nat} {ks : List (List Int)} {ds : List D} (h : S[n]? = some (.dct ks ds)) : dctOf S (.cel n) = some (ks, ds) := by
  simp [dctOf, h]
theorem keyOf_tup (t : List Int) : keyOf (tupI t) = some t := by
  show intsOf (t.map D.int) = some t
  rw [intsOf_ints]
theorem dget_tup {S : Sto} {n : Nat} {ks : List (List Int)} {ds : List D} (h : S[n]? = some (.dct ks ds)) (t : List Int) : dGetF S (.cel n) (tupI t) = some (dAt ks ds t) := by
  unfold dGetF
  rw [dctOf_cel h, keyOf_tup]
theorem dput_tup {S : Sto} {n : Nat} {ks : List (List Int)} {ds : List D} (h : S[n]? = some (.dct ks ds)) (hz : ks.length < LIM) (t : List Int) (d : D) : dPutF S (.cel n) (tupI t) d = some (S.set n (.dct (putKs ks t) (putDs ks ds t d))) := by
  unfold dPutF
  rw [dctOf_cel h, keyOf_tup]
  exact if_pos hz
end M
end

section
set_option linter.all false
set_option maxRecDepth 100000
set_option maxHeartbeats 1000000
set_option autoImplicit false
/-! what is looked at; polls made -/
namespace Q
open DL M
theorem kit_ii : L2.kitB "int" "int" = some true := by decide +kernel
theorem kit_ib : L2.kitB "int" "bool" = some false := by decide +kernel
theorem kit_tt : L2.kitB "tuple" "tuple" = some true := by decide +kernel
section
variable (S : Sto) (a b i j : Int)
@[simp] theorem isi_int : fIsi [.int i, .ty "int"] S = .ok (.bl true) S := by simp [fIsi, tyName, kit_ii]
@[simp] theorem isi_ib : fIsi [.int i, .ty "bool"] S = .ok (.bl false) S := by simp [fIsi, tyName, kit_ib]
@[simp] theorem isi_tup (ds : List D) : fIsi [.tup ds, .ty "tuple"] S = .ok (.bl true) S := by simp [fIsi, tyName, kit_tt]
theorem whole_i : F_is_whole [.int i] S = .ok (.bl true) S := by
  simp [F_is_whole, c_is_whole, entry]
theorem between_i : F_is_between [.int i, .int a, .int b] S = .ok (.bl (decide (a ≤ i) && decide (i ≤ b))) S := by
  simp [F_is_between, c_is_between, entry, whole_i]
  by_cases h : a ≤ i <;> simp [h]
def rD (a b : Int) : D := .tup [.int a, .int b]
theorem rule_ok (h1 : 0 ≤ a) (h2 : a ≤ 9) (h3 : 1 ≤ b) (h4 : b ≤ 9) : F_is_rule [rD a b] S = .ok (.bl true) S := by
  simp [F_is_rule, F_is_tuple_of, c_is_rule, c_is_tuple_of, entry, rD, between_i, h1, h2, h3, h4]
theorem row_ok (ds : List D) (h1 : a ≤ ds.length) (h2 : (ds.length : Int) ≤ b) : F_is_row [.tup ds, .int a, .int b] S = .ok (.bl true) S := by
  simp [F_is_row, c_is_row, entry, h1, h2]
end
/-- votes as they should be -/
structure Vts (vs : List Int) : Prop where
  l0 : 1 ≤ vs.length
  l1 : vs.length ≤ 6
  lo : ∀ v ∈ vs, 0 ≤ v
  hi : ∀ v ∈ vs, v ≤ 999
  pos : ∃ v ∈ vs, 0 < v
/-- parties with votes -/
def cntV (vs : List Int) : Nat := (vs.filter fun v => decide (0 < v)).length
structure VPoll (vs : List Int) (s : Nat) (a b : Int) : Prop where
  v : Vts vs
  s0 : 1 ≤ s
  s1 : s ≤ 15
  a0 : 0 ≤ a
  a1 : a ≤ 9
  b0 : 1 ≤ b
  b1 : b ≤ 9
  en : 0 < a ∨ cntV vs ≤ s
section
variable {vs : List Int} {s : Nat} {a b : Int}
theorem first_ok (S : Sto) (h : ∀ v ∈ vs, 0 ≤ v ∧ v ≤ 999) : F_first_wrong [tupI vs, .lam L_wrong_number] S = .ok .non S := by
  have := for_all (items := enumL 0 (vs.map D.int)) (g := g_first_wrong_1) (b := b_first_wrong_1) (env := [some (tupI vs), some (.lam L_wrong_number), none, none]) (S := S)
    (fun i env S' => S' = S ∧ ∃ x y, env = [some (tupI vs), some (.lam L_wrong_number), x, y]) ⟨rfl, none, none, rfl⟩ ?_
  · obtain ⟨env', S', h1, rfl, x, y, rfl⟩ := this
    simp [F_first_wrong, c_first_wrong, entry, tupI] at h1 ⊢
    rw [h1]
    simp
  · rintro i d env S' he ⟨rfl, x, y, rfl⟩
    rw [enumL_get, List.getElem?_map] at he
    obtain ⟨z, hz, rfl⟩ := Option.map_eq_some_iff.mp he
    obtain ⟨v, hv, rfl⟩ := Option.map_eq_some_iff.mp hz
    have hr := h v (List.mem_of_getElem? hv)
    refine ⟨_, S', .inl ?_, rfl, some (.int i), some (.int v), rfl⟩
    have e : ∀ T, appL lamTab L_wrong_number [.int v, .tup T] S' = .ok (.bl true) S' := fun T => by
      rw [app_wrong_number]
      simp [FL_wrong_number, c_lam_wrong_number, runE, entry, between_i, hr.1, hr.2]
    simp [turnOf, cCallV, tupI, fSl, listOf, e]
theorem wrong_ok (S : Sto) (h : ∀ v ∈ vs, 0 ≤ v ∧ v ≤ 999) : F_wrong_number [tupI vs] S = .ok .non S := by
  simp [F_wrong_number, c_wrong_number, entry, first_ok S h]
theorem notN_non (S : Sto) : oNotN .non .non S = .ok (.bl false) S := rfl
theorem lc_votes {g : DGn} {t : DTn} {e : DEn} {env0 : Env} {S : Sto} (p : Int → Bool) (h : Int → D) (hz : vs.length ≤ 6)
    (step : ∀ v ∈ vs, ∃ env2, g (.int v) env0 S = .nx env2 S ∧ t env2 S = .ok (p v) S ∧ (p v = true → e env2 S = .ok (h v) S)) : lcN (.fix (vs.map D.int)) g t e env0 vs.length 0 [] S = .ok ((vs.filter p).map h) S :=
  lc_map (xs := vs) (fun _ v => .int v) p h rfl (by simp) (fun i x hx => by simp [hx]) (by show vs.length ≤ 16777216; omega) fun i x hx => step x (List.mem_of_getElem? hx)
theorem any_pos (h : ∃ v ∈ vs, 0 < v) (S : Sto) : fAny [.lst (vs.map fun v => D.bl (decide (0 < v)))] S = .ok (.bl true) S := by
  have e : blsOf (vs.map fun v => D.bl (decide (0 < v))) = some (vs.map fun v => decide (0 < v)) := by
    clear h
    induction vs with
    | nil => rfl
    | cons v vs ih => simp [blsOf, ih]
  simp only [fAny, seqOf_lst, e, Option.bind_some]
  congr 2
  simpa using h
theorem are_votes_ok (V : Vts vs) (S : Sto) : F_are_votes [tupI vs] S = .ok (.bl true) S := by
  have hr : F_is_row [tupI vs, .int 1, .int 6] S = .ok (.bl true) S := row_ok S 1 6 _ (by have := V.l0; simp; omega) (by have := V.l1; simp; omega)
  have hw := wrong_ok (vs := vs) S fun v hv => ⟨V.lo v hv, V.hi v hv⟩
  have hl : ∀ x, lcN (.fix (vs.map D.int)) g_are_votes_1 t_are_votes_1 e_are_votes_1 [x, none] vs.length 0 [] S = .ok ((vs.filter fun _ => true).map fun v => D.bl (decide (0 < v))) S := fun x =>
    lc_votes (fun _ => true) (fun v => D.bl (decide (0 < v))) V.l1 fun v hv => ⟨_, rfl, rfl, fun _ => by simp⟩
  have ha := any_pos V.pos S
  have hf : (vs.filter fun _ => true) = vs := List.filter_eq_self.mpr fun _ _ => rfl
  rw [hf] at hl
  simp [F_are_votes, c_are_votes, entry, hr, hw, notN_non, wipeD]
  simp only [tupI, srcOf_tup, bind_ok, fix_n, List.length_map, hl, ha, th_ok]
theorem are_enough_ok (V : VPoll vs s a b) (S : Sto) : F_are_enough [tupI vs, .int s, rD a b] S = .ok (.bl true) S := by
  have hl : ∀ x y z, lcN (.fix (vs.map D.int)) g_are_enough_1 t_are_enough_1 e_are_enough_1 [x, y, z, none] vs.length 0 [] S = .ok ((vs.filter fun v => decide (0 < v)).map D.int) S := fun x y z =>
    lc_votes (fun v => decide (0 < v)) D.int V.v.l1 fun v hv => ⟨_, rfl, by simp, fun _ => by simp⟩
  by_cases ha : 0 < a
  · simp [F_are_enough, c_are_enough, entry, rD, ha]
  · have he : ((vs.filter fun v => decide (0 < v)).length : Int) ≤ s := by
      rcases V.en with z | z
      · exact absurd z ha
      · unfold cntV at z
        omega
    simp [F_are_enough, c_are_enough, entry, rD, ha, wipeD]
    simp only [tupI, srcOf_tup, bind_ok, fix_n, List.length_map, hl, len_lst, oGe_int, th_ok]
    simp only [if_pos he, decide_eq_true he]
theorem check_votes_ok (V : Vts vs) (S : Sto) : F_check_votes [tupI vs] S = .ok .non S := by
  have hr : F_is_row [tupI vs, .int 1, .int 6] S = .ok (.bl true) S := row_ok S 1 6 _ (by have := V.l0; simp; omega) (by have := V.l1; simp; omega)
  have hw := wrong_ok (vs := vs) S fun v hv => ⟨V.lo v hv, V.hi v hv⟩
  simp [F_check_votes, c_check_votes, entry, hr, hw, are_votes_ok V S, notN_non]
theorem check_seats_ok (h0 : 1 ≤ s) (h1 : s ≤ 15) (S : Sto) : F_check_seats [.int s] S = .ok .non S := by
  have e0 : (1 : Int) ≤ s := by omega
  have e1 : (s : Int) ≤ 15 := by omega
  simp [F_check_seats, c_check_seats, F_is_seats, c_is_seats, entry, between_i, e0, e1]
theorem check_rule_ok (h1 : 0 ≤ a) (h2 : a ≤ 9) (h3 : 1 ≤ b) (h4 : b ≤ 9) (S : Sto) : F_check_rule [rD a b] S = .ok .non S := by
  simp [F_check_rule, c_check_rule, entry, rule_ok, h1, h2, h3, h4]
def pollD (vs : List Int) (s : Nat) (a b : Int) : D := .obj "Poll" ["votes", "seats", "rule"] [tupI vs, .int s, rD a b]
theorem poll_ok (V : VPoll vs s a b) (S : Sto) : mkD "Poll" ["votes", "seats", "rule"] I_Poll [tupI vs, .int s, rD a b] S = .ok (pollD vs s a b) S := by
  refine mkD_ok fun p => ?_
  simp [I_Poll, c_Poll___init__, initF, entry, preI, check_votes_ok V.v S, check_seats_ok V.s0 V.s1 S, check_rule_ok V.a0 V.a1 V.b0 V.b1 S, are_enough_ok V S]
@[simp] theorem fld_votes (S : Sto) : fldD ["Poll"] "votes" (pollD vs s a b) S = .ok (tupI vs) S := by
  simp [pollD, fldD, fldOf, List.lookup]
@[simp] theorem fld_seats (S : Sto) : fldD ["Poll"] "seats" (pollD vs s a b) S = .ok (.int s) S := by
  have e : (("seats" : PySem.Str) == "votes") = false := by decide +kernel
  simp [pollD, fldD, fldOf, List.lookup, e]
@[simp] theorem fld_rule (S : Sto) : fldD ["Poll"] "rule" (pollD vs s a b) S = .ok (rD a b) S := by
  have e : (("rule" : PySem.Str) == "votes") = false := by decide +kernel
  have e2 : (("rule" : PySem.Str) == "seats") = false := by decide +kernel
  simp [pollD, fldD, fldOf, List.lookup, e, e2]
theorem check_poll_ok (S : Sto) : F_check_poll [pollD vs s a b] S = .ok .non S := by
  simp [F_check_poll, c_check_poll, entry, fIsiC, pollD]
end
end Q
end

section
set_option linter.all false
set_option maxRecDepth 100000
set_option maxHeartbeats 2000000
set_option autoImplicit false
/-! pools (laws k40 to k57) -/
namespace Q
open DL M
def wellC (p q t : Int) : Cell := .lst [.int p, .int q, .int t]
def WellAt (n : Nat) (S : Sto) : Prop := ∃ p q t, S[n]? = some (wellC p q t)
theorem WellAt.app {n : Nat} {S : Sto} (h : WellAt n S) (J : Sto) : WellAt n (S ++ J) := by
  obtain ⟨p, q, t, h⟩ := h
  exact ⟨p, q, t, by rw [List.getElem?_append_left (List.getElem?_eq_some_iff.mp h).1]; exact h⟩
theorem ixc {S : Sto} {n : Nat} {p q t : Int} (h : S[n]? = some (wellC p q t)) : oIx (.cel n) (.int 0) S = .ok (.int p) S ∧ oIx (.cel n) (.int 1) S = .ok (.int q) S ∧ oIx (.cel n) (.int 2) S = .ok (.int t) S :=
  ⟨ix_seq (n := 0) (seqOf_cel h) rfl, ix_seq (n := 1) (seqOf_cel h) rfl, ix_seq (n := 2) (seqOf_cel h) rfl⟩
theorem setc {S : Sto} {n : Nat} {p q t : Int} (h : S[n]? = some (wellC p q t)) (v : Int) : setD S (.cel n) (.int 0) (.int v) = some (S.set n (wellC v q t)) ∧ setD S (.cel n) (.int 1) (.int v) = some (S.set n (wellC p v t)) ∧ setD S (.cel n) (.int 2) (.int v) = some (S.set n (wellC p q v)) :=
  ⟨set_cel (n := 0) h (by simp), set_cel (n := 1) h (by simp), set_cel (n := 2) h (by simp)⟩
theorem getset {S : Sto} {n : Nat} {c d : Cell} (h : S[n]? = some c) : (S.set n d)[n]? = some d := by
  have := (List.getElem?_eq_some_iff.mp h).1
  simp [this]
theorem dm_ok (S : Sto) (p m : Int) (h1 : 0 < m) (h2 : m < 1073741824) : fDivmod [.int p, .int m] S = .ok (.tup [.int (p / m), .int (p % m)]) S := by
  simp only [fDivmod]
  rw [if_pos ⟨h1, h2⟩]
/-- a drawn number -/
theorem take_ok {S : Sto} {n : Nat} {m : Int} (hS : WellAt n S) (hm : 0 < m) (hm2 : m < 100000) :
    ∃ k : Nat, (k : Int) < m ∧ ∃ S', F__law_take [.cel n, .int m] S = .ok (.int k) S' ∧ WellAt n S' ∧ ∃ c, S' = S.set n c := by
  obtain ⟨p, q, t, hS⟩ := hS
  obtain ⟨i0, i1, i2⟩ := ixc hS
  have he : entry 4 [.cel n, .int m] = [some (.cel n), some (.int m), none, none] := rfl
  by_cases hp : 0 < p
  · have k0 := Int.emod_nonneg p (show m ≠ 0 by omega)
    have k1 := Int.emod_lt_of_pos p hm
    refine ⟨(p % m).toNat, by omega, S.set n (wellC (p / m) q t), ?_, ⟨p / m, q, t, getset hS⟩, _, rfl⟩
    have s0 := (setc hS (p / m)).1
    have d := dm_ok S p m hm (by omega)
    rw [Int.toNat_of_nonneg k0]
    simp only [F__law_take, runF_ap, List.length_cons, List.length_nil, c__law_take, he, sSeq_ap, sIf_ap, cTst_ap, cBin_ap, cVar_ap, cK_ap, List.getElem?_cons_succ, List.getElem?_cons_zero, bind_ok, i0, oGt_int, asB_bl, decide_eq_true hp, th_ok, if_true, sAsg_ap, cApp_ap, cCons_ap, cNil_ap, d, gTpn_tup, gsCons_cons, gSubD_ap, s0, seq_nx, gNm_ap, gsNil_nil, tg_nx, List.set, sRet_ap, seq_ret]
  · have s2 := (setc hS (t + 1)).2.2
    have g2 : (S.set n (wellC p q (t + 1)))[n]? = some (wellC p q (t + 1)) := getset hS
    obtain ⟨j0, j1, j2⟩ := ixc g2
    have m1 : mulB 28657 (t + 1) = true := mulB_l (by omega) (by omega)
    have m3 : mulB 17 (t + 1) = true := mulB_l (by omega) (by omega)
    have M : (0 : Int) < 2147483399 := by decide
    generalize hst : (q + 28657 * (t + 1)) % 2147483399 = st
    have st0 : 0 ≤ st := by omega
    have st1 : st < 2147483399 := by omega
    have m2 : mulB st (st % 5003 + 48271) = true := mulB_l st0 (by omega)
    generalize hq' : (st * (st % 5003 + 48271) + 17 * (t + 1)) % 2147483399 = q'
    have s1 := (setc g2 q').2.1
    have g3 : ((S.set n (wellC p q (t + 1))).set n (wellC p q' (t + 1)))[n]? = some (wellC p q' (t + 1)) := getset g2
    obtain ⟨l0, l1, l2⟩ := ixc g3
    have k0 := Int.emod_nonneg (q' / 613) (show m ≠ 0 by omega)
    have k1 := Int.emod_lt_of_pos (q' / 613) hm
    refine ⟨(q' / 613 % m).toNat, by omega, (S.set n (wellC p q (t + 1))).set n (wellC p q' (t + 1)), ?_, ⟨p, q', t + 1, g3⟩, wellC p q' (t + 1), by rw [List.set_set]⟩
    have dv613 := fun S => oDiv_int S q' 613 (by decide) (log_small (by decide) (by decide))
    have md := fun S => oMod_int S (q' / 613) m hm
    have md1 := fun S x => oMod_int S x 2147483399 M
    have md5 := fun S => oMod_int S st 5003 (by decide)
    rw [Int.toNat_of_nonneg k0]
    simp only [F__law_take, runF_ap, List.length_cons, List.length_nil, c__law_take, he, sSeq_ap, sIf_ap, cTst_ap, cBin_ap, cVar_ap, cK_ap, List.getElem?_cons_succ, List.getElem?_cons_zero, bind_ok, i0, i2, oGt_int, asB_bl, decide_eq_false hp, th_ok, Bool.false_eq_true, if_false, sNil_ap, sAsg_ap, oAddG_int, gSubD_ap, s2, tg_nx, seq_nx, sSet_ap, j1, j2, oMulG_int _ _ _ m1, md1, hst, List.set, md5, oMulG_int _ _ _ m2, oMulG_int _ _ _ m3, hq', s1, sRet_ap, l1, dv613, md]
    simp
/-- one of some things -/
theorem of_ok {S : Sto} {n : Nat} {ds : List D} (hS : WellAt n S) (h0 : 1 ≤ ds.length) (h1 : ds.length < 100000) :
    ∃ k, ∃ h : k < ds.length, ∃ S', F__law_of [.cel n, .lst ds] S = .ok ds[k] S' ∧ WellAt n S' ∧ ∃ c, S' = S.set n c := by
  obtain ⟨k, hk, S', h, w, hc⟩ := take_ok (m := (ds.length : Int)) hS (by omega) (by omega)
  have hk' : k < ds.length := by omega
  refine ⟨k, hk', S', ?_, w, hc⟩
  have hix : oIx (.lst ds) (.int k) S' = .ok ds[k] S' := ix_seq (n := k) rfl (List.getElem?_eq_getElem hk')
  have he : entry 2 [.cel n, .lst ds] = [some (.cel n), some (.lst ds)] := rfl
  simp only [F__law_of, runF_ap, List.length_cons, List.length_nil, c__law_of, he, sRet_ap, cBin_ap, cVar_ap, cApp_ap, cCons_ap, cNil_ap, List.getElem?_cons_succ, List.getElem?_cons_zero, bind_ok, len_lst, h, hix, th_ok, if_true]
theorem cut_ints (is : List Int) (lo hi : Option Int) : ∃ js : List Int, cutD (is.map D.int) lo hi = js.map D.int ∧ js.length ≤ is.length := by
  unfold cutD
  rw [← List.map_drop, ← List.map_take]
  refine ⟨_, rfl, ?_⟩
  rw [List.length_take, List.length_drop]
  omega
theorem pow_at (S : Sto) (k : Nat) (hk : k ≤ 1000) : oPow (.int 10) (.int (k : Int)) S = .ok (.int (10 ^ k)) S := by
  simp only [oPow]
  rw [if_pos ⟨by omega, by omega, by decide⟩, Int.toNat_natCast]
theorem pow_pos (k : Nat) : (0 : Int) < 10 ^ k := Int.pow_pos (by decide)
theorem mulB_pow (j k : Nat) (h : mulB (10 ^ j) (10 ^ k) = true) (S : Sto) : oMulG (.int (10 ^ j)) (.int (10 ^ k)) S = .ok (.int (10 ^ (j + k))) S := by
  rw [oMulG_int _ _ _ h, Int.pow_add]
abbrev wideE : DEn := cBin oMulG (cBin oMulG (cBin oMulG (cBin oMulG (cBin oMulG (cBin oPow (cK (.int 10)) (cK (.int 64))) (cBin oPow (cK (.int 10)) (cK (.int 64)))) (cBin oPow (cK (.int 10)) (cK (.int 64)))) (cBin oPow (cK (.int 10)) (cK (.int 64)))) (cBin oPow (cK (.int 10)) (cK (.int 64)))) (cBin oPow (cK (.int 10)) (cK (.int 64)))
theorem wide_ok (env : Env) (S : Sto) : wideE env S = .ok (.int (10 ^ 384)) S := by
  have p := fun S => pow_at S 64 (by omega)
  have p' : ∀ S, oPow (.int 10) (.int 64) S = .ok (.int (10 ^ 64)) S := p
  have m1 := mulB_pow 64 64 (by decide +kernel)
  have m2 := mulB_pow (64 + 64) 64 (by decide +kernel)
  have m3 := mulB_pow (64 + 64 + 64) 64 (by decide +kernel)
  have m4 := mulB_pow (64 + 64 + 64 + 64) 64 (by decide +kernel)
  have m5 := mulB_pow (64 + 64 + 64 + 64 + 64) 64 (by decide +kernel)
  simp only [wideE, cBin_ap, cK_ap, bind_ok, p', m1, m2, m3, m4, m5]
theorem mix_ok (S : Sto) (js : List Int) (q : Int) (x0 x1 x2 x4 x5 : Option D) : ∃ q' y5, forN (.fix (js.map D.int)) g__law_pool_1 b__law_pool_1 (js.map D.int).length 0 [x0, x1, x2, some (.int q), x4, x5] S = .nx [x0, x1, x2, some (.int q'), x4, y5] S := by
  have hl := for_all (items := js.map D.int) (g := g__law_pool_1) (b := b__law_pool_1) (env := [x0, x1, x2, some (.int q), x4, x5]) (S := S) (fun i env S' => S' = S ∧ ∃ q' y5, env = [x0, x1, x2, some (.int q'), x4, y5]) ⟨rfl, q, x5, rfl⟩ ?_
  · obtain ⟨env', S', h, rfl, q', y5, rfl⟩ := hl
    exact ⟨q', y5, h⟩
  · rintro i d env S' he ⟨rfl, q, y5, rfl⟩
    rw [List.getElem?_map] at he
    obtain ⟨j, hj, rfl⟩ := Option.map_eq_some_iff.mp he
    have M : (0 : Int) < 2147483399 := by decide
    have md := fun x => oMod_int S' x 2147483399 M
    have m1 : ∀ x, mulB x 48271 = true := fun x => mulB_r (by decide) (by decide)
    have m2 : ∀ x, mulB x 19 = true := fun x => mulB_r (by decide) (by decide)
    refine ⟨_, S', .inl ?_, rfl, (q * 48271 + j % 2147483399 * 19 + 7) % 2147483399, some (.int j), rfl⟩
    simp only [turnOf, gNm_ap, tg_nx, seq_nx, List.set, sSet_ap, cBin_ap, cVar_ap, cK_ap, List.getElem?_cons_succ, List.getElem?_cons_zero, bind_ok, oMulG_int _ _ _ (m1 _), oMulG_int _ _ _ (m2 _), md, oAddG_int, th_ok]
theorem sum_lst (S : Sto) (is : List Int) : fSum [.lst (is.map D.int)] S = .ok (.int is.sum) S := by
  simp [fSum, intsOf_ints]
theorem pool_ok (S : Sto) (ns : List Int) (k : Nat) (hk : k ≤ 100) : ∃ p q, F__law_pool [.kls (ns.map D.int), .int k] S = .ok (.cel S.length) (S ++ [wellC p q 0]) := by
  have he : entry 6 [.kls (ns.map D.int), .int k] = [some (.kls (ns.map D.int)), some (.int k), none, none, none, none] := rfl
  obtain ⟨cs, hcs, _⟩ := cut_ints ns (some (k : Int)) (some ((k : Int) + 1))
  obtain ⟨js, hjs, _⟩ := cut_ints ns none (some 12)
  have mk : mulB 977 (k : Int) = true := mulB_l (by decide) (by decide)
  obtain ⟨q, y5, hmix⟩ := mix_ok S js (50021 + 977 * (k : Int)) (some (.kls (ns.map D.int))) (some (.int k)) (some (.int cs.sum)) (some (.int (10 ^ 384))) none
  have w0 := pow_pos 384
  have md := fun x => oMod_int S x (10 ^ 384) w0
  have p18 : ∀ S, oPow (.int 10) (.int 18) S = .ok (.int (10 ^ 18)) S := fun S => pow_at S 18 (by omega)
  have hw := fun env => wide_ok env S
  have hsum := sum_lst S cs
  have hkls : ∀ S : Sto, listOf S (.kls (ns.map D.int)) = some (ns.map D.int) := fun _ => rfl
  generalize (10 : Int) ^ 384 = w at *
  generalize hz : (10 : Int) ^ 18 = z at *
  generalize cs.sum = c at *
  have ab : fAbs [.int c] S = .ok (.int (if c < 0 then -c else c)) S := rfl
  refine ⟨if c < 0 ∨ z ≤ c then (if c < 0 then -c else c) % w else 0, q, ?_⟩
  simp only [wideE] at hw
  simp only [F__law_pool, runF_ap, List.length_cons, List.length_nil, c__law_pool, he]
  simp only [sSeq_ap, sPar_ap, cCons_ap, cApp_ap, cSlG_ap, cVar_ap, cPart_ap, cBin_ap, cK_ap, cNil_ap, List.getElem?_cons_succ, List.getElem?_cons_zero, bind_ok, asI_int, oAddG_int, hkls, hcs, hsum, oMulG_int _ _ _ mk, th_ok, seq_nx, List.set]
  simp only [sSeq_ap, sSet_ap, hw, th_ok, seq_nx, List.set, sFor_ap, iSeq_ap, cSlG_ap, cVar_ap, cNo_ap, cPart_ap, cK_ap, List.getElem?_cons_succ, List.getElem?_cons_zero, bind_ok, asI_int, hkls, hjs, srcOf_lst, fix_n, hmix, sRet_ap, cBox_ap, cLst_ap, cCons_ap, cIf_ap, cOrT_ap, cTst_ap, cBin_ap, oLt_int, asB_bl, oGe_int, p18]
  have l3 : 3 ≤ LIM := by show 3 ≤ 16777216; omega
  by_cases h1 : c < 0
  · simp [h1, ab, md, l3, wellC]
  · by_cases h2 : z ≤ c
    · simp [h1, h2, ab, md, l3, wellC]
    · simp [h1, h2, ab, md, l3, wellC]
/-- a rule -/
structure Rule (a b : Int) : Prop where
  a1 : 1 ≤ a
  a9 : a ≤ 9
  b1 : 1 ≤ b
  b9 : b ≤ 9
theorem rule_draw {n : Nat} {S : Sto} (h : WellAt n S) : ∃ a b S', Rule a b ∧ WellAt n S' ∧ F__law_rule [.cel n] S = .ok (rD a b) S' := by
  obtain ⟨k, hk, S1, e, hp, _⟩ := take_ok (m := 9) h (by omega) (by omega)
  obtain ⟨j, hj, S2, e2, hp2, _⟩ := of_ok (ds := [rD 1 1, rD 1 1, rD 1 2, rD 1 2, rD 2 3, rD 3 1, rD 5 7, rD 9 1, rD (1 + k) 9]) hp (by simp) (by simp)
  have hr : ∃ a b, [rD 1 1, rD 1 1, rD 1 2, rD 1 2, rD 2 3, rD 3 1, rD 5 7, rD 9 1, rD (1 + k) 9][j] = rD a b ∧ Rule a b := by
    have hd := List.getElem_mem hj
    simp only [List.mem_cons, List.not_mem_nil, or_false] at hd
    rcases hd with h | h | h | h | h | h | h | h | h
    all_goals exact ⟨_, _, h, ⟨by omega, by omega, by omega, by omega⟩⟩
  obtain ⟨a, b, hd, hr⟩ := hr
  rw [hd] at e2
  refine ⟨a, b, S2, hr, hp2, ?_⟩
  simp only [rD] at e2
  have l9 : 9 ≤ LIM := by show 9 ≤ 16777216; omega
  have l2 : 2 ≤ LIM := by show 2 ≤ 16777216; omega
  have he : entry 1 [.cel n] = [some (.cel n)] := rfl
  simp only [F__law_rule, runF_ap, List.length_cons, List.length_nil, c__law_rule, he, sRet_ap, cApp_ap, cCons_ap, cVal_ap, cLst_ap, cTup_ap, cBin_ap, cVar_ap, cK_ap, cNil_ap, List.getElem?_cons_succ, List.getElem?_cons_zero, bind_ok, Nat.zero_add, Nat.reduceAdd, l2, l9, if_true, e, oAddG_int, e2, th_ok, rD]
end Q
end

section
set_option linter.all false
set_option maxRecDepth 100000
set_option maxHeartbeats 4000000
set_option autoImplicit false
/-! drawn polls (laws k40 to k57) -/
namespace Q
open DL M
/-- a drawn poll -/
structure DPoll (P T Q : Nat) (vs : List Int) (s : Nat) (a b : Int) : Prop where
  l0 : 1 ≤ vs.length
  l1 : vs.length ≤ P
  lo : ∀ v ∈ vs, 0 ≤ v
  hi : ∀ v ∈ vs, v ≤ T
  pos : ∃ v ∈ vs, 0 < v
  s0 : 1 ≤ s
  s1 : s ≤ Q
  r : Rule a b
theorem item_ok {n : Nat} {S : Sto} (hS : WellAt n S) {m T : Int} (m0 : 1 ≤ m) (m1 : m ≤ T) (hT : T ≤ 999) (x1 x2 x3 x4 x5 x7 : Option D) (d : D) : ∃ (y : Int) (S' : Sto), 0 ≤ y ∧ y ≤ T ∧ WellAt n S' ∧
    e__law_poll_1 [some (.cel n), x1, x2, x3, x4, x5, some (.int m), x7, some d] S = .ok (.int y) S' := by
  obtain ⟨k1, hk1, S1, e1, w1, _⟩ := take_ok (m := m + 1) hS (by omega) (by omega)
  obtain ⟨k2, hk2, S2, e2, w2, _⟩ := take_ok (m := m + 1) w1 (by omega) (by omega)
  obtain ⟨j, hj, S3, e3, w3, _⟩ := of_ok (ds := [.int k1, .int k2, .int m, .int 1]) w2 (by simp) (by simp)
  have hr : ∃ y : Int, ([.int k1, .int k2, .int m, .int 1] : List D)[j] = .int y ∧ 0 ≤ y ∧ y ≤ T := by
    have hd := List.getElem_mem hj
    simp only [List.mem_cons, List.not_mem_nil, or_false] at hd
    rcases hd with h | h | h | h
    · exact ⟨_, h, by omega, by omega⟩
    · exact ⟨_, h, by omega, by omega⟩
    · exact ⟨_, h, by omega, by omega⟩
    · exact ⟨_, h, by omega, by omega⟩
  obtain ⟨y, ey, y0, y1⟩ := hr
  rw [ey] at e3
  refine ⟨y, S3, y0, y1, w3, ?_⟩
  have l4 : (0 : Nat) + 1 + 1 + 1 + 1 ≤ LIM := by decide
  simp only [cApp_ap, cCons_ap, cVar_ap, List.getElem?_cons_succ, List.getElem?_cons_zero, cVal_ap, cLst_ap, cBin_ap, cK_ap, cNil_ap, bind_ok, oAddG_int, e1, e2, List.length_cons, List.length_nil, if_pos l4, e3]
theorem poll_draw {n : Nat} {S : Sto} (hS : WellAt n S) (P T Q : Nat) (hP0 : 1 ≤ P) (hP : P ≤ 6) (hT0 : 1 ≤ T) (hT : T ≤ 999) (hQ0 : 1 ≤ Q) (hQ : Q ≤ 15) : ∃ (vs : List Int) (s : Nat) (a b : Int) (S' : Sto), DPoll P (max T 30) Q vs s a b ∧ WellAt n S' ∧
    F__law_poll [.cel n, .int P, .int T, .int Q] S = .ok (.tup [tupI vs, .int s, rD a b]) S' := by
  obtain ⟨k1, hk1, S1, e1, w1, _⟩ := take_ok (m := (P : Int)) hS (by omega) (by omega)
  obtain ⟨a, b, S2, hr, w2, e2⟩ := rule_draw w1
  obtain ⟨j, hj, S3, e3, w3, _⟩ := of_ok (ds := [.int T, .int T, .int 5, .int 30]) w2 (by simp) (by simp)
  have hm : ∃ m : Int, ([.int T, .int T, .int 5, .int 30] : List D)[j] = .int m ∧ 1 ≤ m ∧ m ≤ (max T 30 : Nat) := by
    have hd := List.getElem_mem hj
    simp only [List.mem_cons, List.not_mem_nil, or_false] at hd
    rcases hd with h | h | h | h
    all_goals exact ⟨_, h, by omega, by omega⟩
  obtain ⟨m, em, m0, m1⟩ := hm
  rw [em] at e3
  have lc := lc_drawn (g := g__law_poll_1) (t := t__law_poll_1) (e := e__law_poll_1) (env0 := [some (.cel n), some (.int P), some (.int T), some (.int Q), some (.int (1 + (k1 : Int))), some (rD a b), some (.int m), none, none]) (items := rngL 0 (1 + k1)) (S := S3) (WellAt n)
    (fun y => ∃ i : Int, y = .int i ∧ 0 ≤ i ∧ i ≤ (max T 30 : Nat)) w3 (by rw [rngL_len]; show 1 + k1 ≤ 16777216; omega) fun d S hd hw => by
      obtain ⟨y, S', y0, y1, w, e⟩ := item_ok hw m0 m1 (by omega) (some (.int P)) (some (.int T)) (some (.int Q)) (some (.int (1 + (k1 : Int)))) (some (rD a b)) none d
      exact ⟨_, S, S, S', .int y, rfl, rfl, e, w, y, rfl, y0, y1⟩
  obtain ⟨ys, S4, elc, w4, hl, hR⟩ := lc
  rw [rngL_len] at elc hl
  obtain ⟨us, rfl, hu⟩ := ints_of hR
  rw [List.length_map] at hl
  have une : us ≠ [] := by
    intro z
    rw [z] at hl
    simp at hl
    omega
  obtain ⟨mm, mle⟩ := maxI_mem une
  have w5 := w4.app [.lst (us.map D.int)]
  have gl : (S4 ++ [.lst (us.map D.int)])[S4.length]? = some (.lst (us.map D.int)) := get_last _ _
  have hmax := max_ints (S := S4 ++ [.lst (us.map D.int)]) (x := .cel S4.length) (seqOf_cel gl) une
  have hnS : n < S4.length := by
    obtain ⟨p, q, t, h⟩ := w4
    exact (List.getElem?_eq_some_iff.mp h).1
  -- the votes, one given a vote if none has any
  have h4 : ∃ (vs : List Int) (S5 : Sto), WellAt n S5 ∧ S5[S4.length]? = some (.lst (vs.map D.int)) ∧ vs.length = us.length ∧ (∀ v ∈ vs, 0 ≤ v ∧ v ≤ (max T 30 : Nat)) ∧ (∃ v ∈ vs, 0 < v) ∧
      (sIf (cTst (cBin oEq (cApp fMax (cCons (cVar 7) (cNil))) (cK (.int 0)))) (sAsg (cBin oAddG (cK (.int 1)) (cApp F__law_take (cCons (cVar 0) (cCons (cVar 6) (cNil))))) (gSubD (cVar 7) (cApp F__law_take (cCons (cVar 0) (cCons (cVar 4) (cNil)))))) (sNil))
        [some (.cel n), some (.int P), some (.int T), some (.int Q), some (.int (1 + (k1 : Int))), some (rD a b), some (.int m), some (.cel S4.length), none] (S4 ++ [.lst (us.map D.int)])
      = .nx [some (.cel n), some (.int P), some (.int T), some (.int Q), some (.int (1 + (k1 : Int))), some (rD a b), some (.int m), some (.cel S4.length), none] S5 := by
    by_cases hz : maxI us = 0
    · obtain ⟨k5, hk5, S5, e5, w5', c5, hc5⟩ := take_ok (m := m) w5 (by omega) (by omega)
      obtain ⟨k6, hk6, S6, e6, w6, c6, hc6⟩ := take_ok (m := 1 + (k1 : Int)) w5' (by omega) (by omega)
      have g6 : S6[S4.length]? = some (.lst (us.map D.int)) := by
        rw [hc6, hc5, List.getElem?_set_ne (by omega), List.getElem?_set_ne (by omega)]
        exact gl
      have hk6' : k6 < us.length := by omega
      have hset := set_cel (n := k6) (v := .int (1 + (k5 : Int))) g6 (by simpa using hk6')
      refine ⟨us.set k6 (1 + (k5 : Int)), S6.set S4.length (.lst ((us.set k6 (1 + (k5 : Int))).map D.int)), ?_, ?_, by simp, fun v hv => ?_, ⟨1 + (k5 : Int), List.mem_set hk6' _ , by omega⟩, ?_⟩
      · obtain ⟨p, q, t, h⟩ := w6
        exact ⟨p, q, t, by rw [List.getElem?_set_ne (by omega)]; exact h⟩
      · have := (List.getElem?_eq_some_iff.mp g6).1
        simp [this]
      · rcases List.mem_or_eq_of_mem_set hv with h | h
        · exact hu v h
        · rw [h]; omega
      · rw [List.map_set]
        simp only [sIf_ap, cTst_ap, cBin_ap, cApp_ap, cCons_ap, cVar_ap, cNil_ap, List.getElem?_cons_succ, List.getElem?_cons_zero, bind_ok, hmax, cK_ap, oEq_int, decide_eq_true hz, asB_bl, th_ok, if_true, sAsg_ap, e5, oAddG_int, gSubD_ap, e6, hset, tg_nx]
    · refine ⟨us, S4 ++ [.lst (us.map D.int)], w5, gl, rfl, hu, ⟨maxI us, mm, ?_⟩, ?_⟩
      · have := (hu _ mm).1
        omega
      · simp only [sIf_ap, cTst_ap, cBin_ap, cApp_ap, cCons_ap, cVar_ap, cNil_ap, List.getElem?_cons_succ, List.getElem?_cons_zero, bind_ok, hmax, cK_ap, oEq_int, decide_eq_false hz, asB_bl, th_ok, Bool.false_eq_true, if_false, sNil_ap]
  obtain ⟨vs, S5, w5', g5, vl, vb, vp, e4⟩ := h4
  obtain ⟨k7, hk7, S7, e7, w7, _⟩ := take_ok (m := (Q : Int)) w5' (by omega) (by omega)
  have htup : fTuple [.cel S4.length] S5 = .ok (tupI vs) S5 := by simp [fTuple, listOf_cel g5, seqOf_cel g5, tupI]
  refine ⟨vs, 1 + k7, a, b, S7, ⟨by omega, by omega, fun v hv => (vb v hv).1, fun v hv => (vb v hv).2, vp, by omega, by omega, hr⟩, w7, ?_⟩
  have he : entry 9 [.cel n, .int P, .int T, .int Q] = [some (.cel n), some (.int P), some (.int T), some (.int Q), none, none, none, none, none] := rfl
  have l4 : (0 : Nat) + 1 + 1 + 1 + 1 ≤ LIM := by decide
  have l3 : (0 : Nat) + 1 + 1 + 1 ≤ LIM := by decide
  have rg := fun S => rng1F_of S (z := 1 + (k1 : Int)) (1 + k1) (by omega) (by omega)
  have hs : ((1 + k7 : Nat) : Int) = 1 + (k7 : Int) := by omega
  simp only [F__law_poll, runF_ap, List.length_cons, List.length_nil, c__law_poll, he]
  simp only [sSeq_ap, sPar_ap, cCons_ap, cBin_ap, cK_ap, cApp_ap, cVar_ap, cNil_ap, List.getElem?_cons_succ, List.getElem?_cons_zero, bind_ok, e1, oAddG_int, e2, th_ok, List.set, seq_nx, sSet_ap, cVal_ap, cLst_ap, List.length_cons, List.length_nil, if_pos l4, e3, cBox_ap, cLc_ap, iRng1D_ap, rg, fix_n, rngL_length, wipeD, elc]
  rw [e4]
  simp only [seq_nx, sRet_ap, cTup_ap, cCons_ap, cApp_ap, cVar_ap, cNil_ap, cBin_ap, cK_ap, List.getElem?_cons_succ, List.getElem?_cons_zero, bind_ok, htup, e7, oAddG_int, List.length_cons, List.length_nil, if_pos l3, th_ok, if_true, hs]
end Q
end

section
set_option linter.all false
set_option maxRecDepth 100000
set_option maxHeartbeats 4000000
set_option autoImplicit false
/-! the law's own results (laws k40 to k57) -/
namespace Q
open DL M
open PySem (PyData)
open PySem.W (dataLe dataLt)
/-- the place i of the claims in falling order, as the law finds it -/
theorem fallsR (W : Int × Nat → Int) (xs : List (Int × Nat)) (i : Nat) (hi : i < xs.length) : ∃ x, x ∈ xs ∧ (sortD false (xs.map (cD W))).reverse[i]? = some (cD W x) ∧ xs.countP (fun z => decide (W x < W z)) ≤ i ∧ i < xs.countP (fun z => decide (W x ≤ W z)) := by
  have e : sortD false (xs.map (cD W)) = (xs.mergeSort (fun a b => PySem.W.dataLe false encD (cD W a) (cD W b))).map (cD W) := (PySem.W.sort_maps (cD W) fun a _ b _ => rfl).symm
  have hle : ∀ a b, PySem.W.dataLe false encD (cD W a) (cD W b) = !PySem.W.dataLt (.tuple [.int (W b), .int b.1]) (.tuple [.int (W a), .int a.1]) := fun a b => rfl
  have hp : (xs.mergeSort (fun a b => PySem.W.dataLe false encD (cD W a) (cD W b))).Perm xs := List.mergeSort_perm _ _
  have hs : (xs.mergeSort (fun a b => PySem.W.dataLe false encD (cD W a) (cD W b))).Pairwise (fun a b => W a ≤ W b) := by
    have := PySem.W.sort_pairwise (le := fun a b => PySem.W.dataLe false encD (cD W a) (cD W b)) ⟨fun a b c h1 h2 => ?_, fun a b => ?_⟩ xs
    · refine this.imp fun {a b} h => ?_
      simp only [hle, PySem.W.dataLt_ii] at h
      simp at h
      omega
    · simp only [hle, PySem.W.dataLt_ii] at h1 h2 ⊢
      simp at h1 h2 ⊢
      omega
    · simp only [hle, PySem.W.dataLt_ii]
      simp
      omega
  generalize hL : xs.mergeSort (fun a b => PySem.W.dataLe false encD (cD W a) (cD W b)) = L at *
  have hpr : L.reverse.Perm xs := (List.reverse_perm L).trans hp
  have hl : i < L.reverse.length := by rw [hpr.length_eq]; exact hi
  have hsr : L.reverse.Pairwise (fun a b => W b ≤ W a) := List.pairwise_reverse.mpr hs
  have hg : L.reverse[i]? = some (L.reverse[i]'hl) := List.getElem?_eq_getElem hl
  obtain ⟨h1, h2⟩ := place_count W L.reverse i _ hsr hg
  refine ⟨L.reverse[i]'hl, hpr.subset (List.getElem_mem _), ?_, ?_, ?_⟩
  · rw [e, ← List.map_reverse, List.getElem?_map, hg]
    rfl
  · rwa [← hpr.countP_eq]
  · rwa [← hpr.countP_eq]
/-- the law's whole -/
theorem count_ap (o e : DEn) (env : Env) (S : Sto) : cCount o e env S = (o env S).bind fun x S1 => match x with
  | .ntu ds => (e env S1).bind fun y S2 => (match cntD S2 (.ntu ds) y with
    | some n => .ok (.int n) S2
    | none => .bad)
  | x => if (listOf S1 x).isSome = true then (e env S1).bind fun y S2 => (if (listOf S2 x).isSome = true then (match cntD S2 x y with
    | some n => .ok (.int n) S2
    | none => .bad) else .bad) else .bad := rfl
/-- one table of the law -/

def wl (a b w own : Int) (k : Nat) : Int := if 0 < dv a b k then own * (w / dv a b k) else 10 ^ 64
abbrev Wl (a b : Int) (vs : List Int) (s : Nat) : Int × Nat → Int := fun z => wl a b (whl a b s) (vAt vs z.1) z.2
section
variable {vs : List Int} {s : Nat} {a b m : Int}
theorem lwhole_ok (h0 : 0 ≤ a) (h0' : a ≤ 9) (h1 : 0 ≤ b) (h2 : b ≤ 9) (hs : s ≤ 90) (S : Sto) (x0 x1 x4 x5 x6 x7 x8 x9 x10 x11 x12 x13 x14 : Option D) : ∃ y5,
    forN (.fix (rngL 0 s)) g__law_results_1 b__law_results_1 s 0 [x0, x1, some (rD a b), some (.int 1), x4, x5, x6, x7, x8, x9, x10, x11, x12, x13, x14] S = .nx [x0, x1, some (rD a b), some (.int (whl a b s)), x4, y5, x6, x7, x8, x9, x10, x11, x12, x13, x14] S := by
  have hl := for_all (items := rngL 0 s) (g := g__law_results_1) (b := b__law_results_1) (env := [x0, x1, some (rD a b), some (.int 1), x4, x5, x6, x7, x8, x9, x10, x11, x12, x13, x14]) (S := S)
    (fun i env S' => S' = S ∧ ∃ y5, env = [x0, x1, some (rD a b), some (.int (whl a b i)), x4, y5, x6, x7, x8, x9, x10, x11, x12, x13, x14]) ⟨rfl, x5, rfl⟩ ?_
  · obtain ⟨env', S', h, rfl, y5, rfl⟩ := hl
    rw [rngL_len] at h
    exact ⟨y5, h⟩
  · rintro i d env S' he ⟨rfl, y5, rfl⟩
    have hi : i < s := by
      have := (List.getElem?_eq_some_iff.mp he).1
      rwa [rngL_len] at this
    rw [rngL_get hi] at he
    cases he
    refine ⟨_, S', .inl ?_, rfl, some (.int i), rfl⟩
    have e1 : mulB b i = true := mulB_l h1 (by omega)
    have e : mulB (whl a b i) (max 1 (a + b * i)) = true := by
      have := dv_le h0 h0' h1 h2 i (by omega)
      unfold dv at this
      exact mulB_r (by omega) (by omega)
    have i0 : ∀ S, oIx (rD a b) (.int 0) S = .ok (.int a) S := fun S => ix_tup0 _ _ _
    have i1 : ∀ S, oIx (rD a b) (.int 1) S = .ok (.int b) S := fun S => ix_tup1 _ _ _ _
    simp [turnOf, i0, i1, oMulG_int _ _ _ e1, max_ii, oMulG_int _ _ _ e, whl, dv]
theorem lclaim_ok (h0 : 1 ≤ a) (h0' : a ≤ 9) (h1 : 1 ≤ b) (h2 : b ≤ 9) (hs : s ≤ 90) (S : Sto) (A : List D) (hA : A.length ≤ 1000) (p : Nat) (v : Int) (hp : vs[p]? = some v) (hv : 0 ≤ v) (hv' : v ≤ 1000000000) (w : Int) (x1 x5 x7 x8 x9 x10 x11 x12 x13 x14 : Option D) : ∃ y5 y7,
    forN (.fix (rngL 0 s)) g__law_results_2 b__law_results_2 s 0 [some (tupI vs), x1, some (rD a b), some (.int w), some (.cel S.length), x5, some (.int p), x7, x8, x9, x10, x11, x12, x13, x14] (S ++ [.lst A])
    = .nx [some (tupI vs), x1, some (rD a b), some (.int w), some (.cel S.length), y5, some (.int p), y7, x8, x9, x10, x11, x12, x13, x14] (S ++ [.lst (A ++ (List.range s).map fun k => .tup [.int (wl a b w v k), .int p])]) := by
  have hl := for_all (items := rngL 0 s) (g := g__law_results_2) (b := b__law_results_2) (env := [some (tupI vs), x1, some (rD a b), some (.int w), some (.cel S.length), x5, some (.int p), x7, x8, x9, x10, x11, x12, x13, x14]) (S := S ++ [.lst A])
    (fun i env S' => S' = S ++ [.lst (A ++ (List.range i).map fun k => .tup [.int (wl a b w v k), .int p])] ∧ ∃ y5 y7, env = [some (tupI vs), x1, some (rD a b), some (.int w), some (.cel S.length), y5, some (.int p), y7, x8, x9, x10, x11, x12, x13, x14]) ⟨by simp, x5, x7, rfl⟩ ?_
  · obtain ⟨env', S', h, rfl, y5, y7, rfl⟩ := hl
    rw [rngL_len] at h
    exact ⟨y5, y7, h⟩
  · rintro i d env S' he ⟨rfl, y5, y7, rfl⟩
    have hi : i < s := by
      have := (List.getElem?_eq_some_iff.mp he).1
      rwa [rngL_len] at this
    rw [rngL_get hi] at he
    cases he
    have dp : 0 < dv a b i := dv_pos (by omega) h1 (.inl (by omega))
    have dl := dv_le (show 0 ≤ a by omega) h0' (show 0 ≤ b by omega) h2 i (by omega)
    have e1 : mulB b i = true := mulB_l (by omega) (by omega)
    have e2 : mulB v (w / dv a b i) = true := mulB_l hv (by omega)
    have e3 := fun S => oDiv_int S w (dv a b i) dp (log_small dp (by omega))
    have i0 : ∀ S, oIx (rD a b) (.int 0) S = .ok (.int a) S := fun S => ix_tup0 _ _ _
    have i1 : ∀ S, oIx (rD a b) (.int 1) S = .ok (.int b) S := fun S => ix_tup1 _ _ _ _
    have i2 := fun S => ix_tupI hp S
    have l2 : (0 : Nat) + 1 + 1 ≤ LIM := by decide
    have ha := app_last S (A ++ (List.range i).map fun k => .tup [.int (wl a b w v k), .int p]) (.tup [.int (v * (w / dv a b i)), .int p]) (by simp [LIM]; omega)
    refine ⟨_, S ++ [.lst ((A ++ (List.range i).map fun k => .tup [.int (wl a b w v k), .int p]) ++ [.tup [.int (v * (w / dv a b i)), .int p]])], .inl ?_, ?_, some (.int i), some (.int (dv a b i)), rfl⟩
    · have ed : a + b * (i : Int) = dv a b i := rfl
      simp only [turnOf, gNm_ap, tg_nx, seq_nx, List.set, sSeq_ap, sSet_ap, cBin_ap, cVar_ap, cK_ap, List.getElem?_cons_succ, List.getElem?_cons_zero, bind_ok, i0, i1, Int.zero_add, oMulG_int _ _ _ e1, oAddG_int, ed, th_ok, sDrop_ap, cMeth_ap, listOf_last, Option.isSome_some, if_true, cCons_ap, cTup_ap, cIf_ap, cTst_ap, oGt_int, decide_eq_true dp, asB_bl, i2, e3, oMulG_int _ _ _ e2, cNil_ap, List.length_cons, List.length_nil, if_pos l2, ha]
    · rw [List.range_succ, List.map_append, List.append_assoc]
      simp [wl, dp]
theorem lclaims_ok (h0 : 1 ≤ a) (h0' : a ≤ 9) (h1 : 1 ≤ b) (h2 : b ≤ 9) (hl : vs.length ≤ 6) (hv : ∀ v ∈ vs, 0 ≤ v) (hv' : ∀ v ∈ vs, v ≤ 1000000000) (hs : s ≤ 90) (S : Sto) (x5 x6 x7 x8 x9 x10 x11 x12 x13 x14 : Option D) : ∃ y5 y6 y7,
    forN (.fix (rngL 0 vs.length)) g__law_results_3 b__law_results_3 vs.length 0 [some (tupI vs), some (.int s), some (rD a b), some (.int (whl a b s)), some (.cel S.length), x5, x6, x7, x8, x9, x10, x11, x12, x13, x14] (S ++ [.lst []])
    = .nx [some (tupI vs), some (.int s), some (rD a b), some (.int (whl a b s)), some (.cel S.length), y5, y6, y7, x8, x9, x10, x11, x12, x13, x14] (S ++ [.lst ((KL vs s).map (cD (Wl a b vs s)))]) := by
  have hf := for_all (items := rngL 0 vs.length) (g := g__law_results_3) (b := b__law_results_3) (env := [some (tupI vs), some (.int s), some (rD a b), some (.int (whl a b s)), some (.cel S.length), x5, x6, x7, x8, x9, x10, x11, x12, x13, x14]) (S := S ++ [.lst []])
    (fun i env S' => S' = S ++ [.lst ((KL (vs.take i) s).map (cD (Wl a b vs s)))] ∧ ∃ y5 y6 y7, env = [some (tupI vs), some (.int s), some (rD a b), some (.int (whl a b s)), some (.cel S.length), y5, y6, y7, x8, x9, x10, x11, x12, x13, x14]) ⟨rfl, x5, x6, x7, rfl⟩ ?_
  · obtain ⟨env', S', h, rfl, y5, y6, y7, rfl⟩ := hf
    rw [rngL_len] at h
    rw [List.take_length] at h
    exact ⟨y5, y6, y7, h⟩
  · rintro i d env S' he ⟨rfl, y5, y6, y7, rfl⟩
    have hi : i < vs.length := by
      have := (List.getElem?_eq_some_iff.mp he).1
      rwa [rngL_len] at this
    rw [rngL_get hi] at he
    cases he
    have hvi : vs[i]? = some vs[i] := List.getElem?_eq_getElem hi
    have hm := List.getElem_mem hi
    have ht : vs.take (i + 1) = vs.take i ++ [vs[i]] := by rw [List.take_add_one, hvi]; rfl
    have hK : KL (vs.take (i + 1)) s = KL (vs.take i) s ++ (if 0 < vs[i] then (List.range s).map fun k => ((i : Int), k) else []) := by
      rw [KL, ht, KLf_app]
      simp [KLf, Nat.min_eq_left (Nat.le_of_lt hi)]
    have hlen : (KL (vs.take i) s).length ≤ 6 * 90 := Nat.le_trans (KLf_len s (vs.take i) 0) (Nat.mul_le_mul (by rw [List.length_take]; omega) hs)
    have i2 := fun S => ix_tupI hvi S
    rw [hK]
    by_cases hp : 0 < vs[i]
    · obtain ⟨z5, z7, e⟩ := lclaim_ok h0 h0' h1 h2 hs S ((KL (vs.take i) s).map (cD (Wl a b vs s))) (by rw [List.length_map]; omega) i vs[i] hvi (hv _ hm) (hv' _ hm) (whl a b s) (some (.int s)) y5 y7 x8 x9 x10 x11 x12 x13 x14
      refine ⟨_, _, .inl ?_, rfl, z5, some (.int i), z7, rfl⟩
      have rg := fun S => rng1F_of S (z := (s : Int)) s rfl (by omega)
      have hw : ∀ k, Wl a b vs s ((i : Int), k) = wl a b (whl a b s) vs[i] k := fun k => by
        have : vAt vs (i : Int) = vs[i] := by
          unfold vAt
          rw [Int.toNat_natCast, List.getD_eq_getElem?_getD, hvi]
          rfl
        simp only [Wl, this]
      have hfin : ((KL (vs.take i) s).map (cD (Wl a b vs s)) ++ (List.range s).map fun k => D.tup [.int (wl a b (whl a b s) vs[i] k), .int i]) = ((KL (vs.take i) s ++ (if 0 < vs[i] then (List.range s).map fun k => ((i : Int), k) else [])).map (cD (Wl a b vs s))) := by
        rw [if_pos hp, List.map_append, List.map_map]
        congr 1
        refine List.map_congr_left fun k _ => ?_
        simp only [Function.comp_apply, cD, hw]
      rw [← hfin]
      simp only [turnOf, gNm_ap, tg_nx, seq_nx, List.set, Int.zero_add, sFor_ap, iRng1D_ap, cCons_ap, cIf_ap, cTst_ap, cBin_ap, cVar_ap, cK_ap, cNil_ap, List.getElem?_cons_succ, List.getElem?_cons_zero, bind_ok, i2, oGt_int, decide_eq_true hp, asB_bl, if_true, rg, th_ok, fix_n, rngL_length, e]
    · refine ⟨_, _, .inl ?_, rfl, y5, some (.int i), y7, rfl⟩
      have rg := fun S => rng1F_of S (z := 0) 0 rfl (by omega)
      rw [if_neg hp, List.append_nil]
      have f0 : ∀ env S, forN (.fix (rngL 0 0)) g__law_results_2 b__law_results_2 0 0 env S = .nx env S := fun env S => forN_end rfl
      simp only [turnOf, gNm_ap, tg_nx, seq_nx, List.set, Int.zero_add, sFor_ap, iRng1D_ap, cCons_ap, cIf_ap, cTst_ap, cBin_ap, cVar_ap, cK_ap, cNil_ap, List.getElem?_cons_succ, List.getElem?_cons_zero, bind_ok, i2, oGt_int, decide_eq_false hp, asB_bl, Bool.false_eq_true, if_false, rg, th_ok, fix_n, rngL_length, f0]
end
end Q
end

section
set_option linter.all false
set_option maxRecDepth 100000
set_option maxHeartbeats 4000000
set_option autoImplicit false
/-! the law's own results, the rest -/
namespace Q
open DL M
open PySem (PyData)
/-- the claims above the mark: their parties -/
def suL (W : Int × Nat → Int) (m : Int) (L : List (Int × Nat)) : List Int := (L.filter fun z => decide (m < W z)).map (·.1)
theorem su_cnt (W : Int × Nat → Int) (m : Int) (p : Nat) (L : List (Int × Nat)) : ((suL W m L).countP fun i => decide (i = (p : Int))) = cnt W m p L := by
  rw [suL, List.countP_map, List.countP_filter, cnt]
  refine List.countP_congr fun z _ => ?_
  simp
theorem su_len (W : Int × Nat → Int) (m : Int) (L : List (Int × Nat)) : (suL W m L).length = L.countP fun z => decide (m < W z) := by
  rw [suL, List.length_map, List.countP_eq_length_filter]
section
variable {vs : List Int} {s : Nat} {a b m : Int}
theorem wl_scale (h0 : 1 ≤ a) (h1 : 1 ≤ b) (z : Int × Nat) (hz : z ∈ KL vs s) : Wp a b vs s z = dv a b s * Wl a b vs s z := by
  obtain ⟨p, _, _, _, hk⟩ := KLf_mem.mp hz
  have dp : 0 < dv a b z.2 := dv_pos (by omega) h1 (.inl (by omega))
  have ds : 0 < dv a b s := dv_pos (by omega) h1 (.inl (by omega))
  obtain ⟨q, hq⟩ := whl_dvd a b s z.2 hk dp
  have hw : whl a b (s + 1) = dv a b z.2 * (q * dv a b s) := by
    show whl a b s * max 1 (dv a b s) = _
    rw [hq, Int.max_eq_right (by omega), Int.mul_assoc]
  have e1 : Wp a b vs s z = vAt vs z.1 * (q * dv a b s) := by
    simp only [Wp, wt]
    rw [if_pos dp, hw, ← Int.mul_assoc, Int.mul_comm (vAt vs z.1), Int.mul_assoc, Int.mul_ediv_cancel_left _ (by omega)]
  have e2 : Wl a b vs s z = vAt vs z.1 * q := by
    simp only [Wl, wl]
    rw [if_pos dp, hq, Int.mul_ediv_cancel_left _ (by omega)]
  rw [e1, e2]
  rw [Int.mul_comm q, ← Int.mul_assoc, Int.mul_comm (vAt vs z.1), Int.mul_assoc]
theorem scale_lt (h0 : 1 ≤ a) (h1 : 1 ≤ b) (z : Int × Nat) (hz : z ∈ KL vs s) : (m < Wl a b vs s z ↔ dv a b s * m < Wp a b vs s z) ∧ (Wl a b vs s z = m ↔ Wp a b vs s z = dv a b s * m) ∧ (m ≤ Wl a b vs s z ↔ dv a b s * m ≤ Wp a b vs s z) := by
  have ds : 0 < dv a b s := dv_pos (by omega) h1 (.inl (by omega))
  rw [wl_scale h0 h1 z hz]
  refine ⟨(Int.mul_lt_mul_left ds).symm, ⟨fun h => by rw [h], fun h => Int.eq_of_mul_eq_mul_left (by omega) h⟩, (Int.mul_le_mul_left ds).symm⟩
theorem found_ok (ty : List Int) (hl : ty.length ≤ 6) (S : Sto) (x0 x1 x2 x3 x4 x5 x6 x7 x8 x9 x10 x12 x14 : Option D) : ∃ y6,
    forN (.fix (ty.map D.int)) g__law_results_7 b__law_results_7 ty.length 0
      [x0, x1, x2, x3, x4, x5, x6, x7, x8, x9, x10, some (.lst [.ntu []]), x12, none, x14] S
    = .nx [x0, x1, x2, x3, x4, x5, y6, x7, x8, x9, x10, some (.lst ((picks ty).map fun row => .ntu (row.map D.int))), x12, none, x14] S := by
  have hf := for_all (items := ty.map D.int) (g := g__law_results_7) (b := b__law_results_7) (env := [x0, x1, x2, x3, x4, x5, x6, x7, x8, x9, x10, some (.lst [.ntu []]), x12, none, x14]) (S := S)
    (fun i env S' => S' = S ∧ ∃ y6, env = [x0, x1, x2, x3, x4, x5, y6, x7, x8, x9, x10, some (.lst ((picks (ty.take i)).map fun row => .ntu (row.map D.int))), x12, none, x14]) ⟨rfl, x6, rfl⟩ ?_
  · obtain ⟨env', S', h, rfl, y6, rfl⟩ := hf
    rw [List.length_map] at h
    rw [List.take_length] at h
    exact ⟨y6, h⟩
  · rintro i d env S' he ⟨rfl, y6, rfl⟩
    rw [List.getElem?_map] at he
    obtain ⟨p, hp, rfl⟩ := Option.map_eq_some_iff.mp he
    have hi : i < ty.length := (List.getElem?_eq_some_iff.mp hp).1
    have ht : ty.take (i + 1) = ty.take i ++ [p] := by rw [List.take_add_one, hp]; rfl
    have hlen : (picks (ty.take i)).length = 2 ^ i := picks_len i _ (by rw [List.length_take]; omega)
    have h64 : 2 ^ i ≤ 64 := Nat.le_trans (Nat.pow_le_pow_right (by omega) (show i ≤ 6 by omega)) (by decide)
    have hlc := lc_map (g := g__law_results_6) (t := t__law_results_6) (e := e__law_results_6) (env0 := [x0, x1, x2, x3, x4, x5, some (.int p), x7, x8, x9, x10, some (.lst ((picks (ty.take i)).map fun row => .ntu (row.map D.int))), x12, none, x14]) (xs := picks (ty.take i)) (m := ((picks (ty.take i)).map fun row => D.ntu (row.map D.int)).length) (ds := (picks (ty.take i)).map fun row => D.ntu (row.map D.int)) (S := S')
      (fun _ row => .ntu (row.map D.int)) (fun _ => true) (fun row => .ntu ((row ++ [p]).map D.int)) (by simp) (by simp) (fun j x hx => by simp [hx]) (by rw [hlen]; show 2 ^ i ≤ 16777216; omega) fun j x hx => ⟨_, rfl, rfl, fun _ => by
        have hx2 : x.length ≤ 6 := by
          have := ((mem_picks _ _ rfl x).mp (List.mem_of_getElem? hx)).length_le
          rw [List.length_take] at this
          omega
        simp [oAddN, LIM]
        omega⟩
    rw [List.filter_eq_self.mpr fun _ _ => rfl] at hlc
    have hadd : oAddG (.lst ((picks (ty.take i)).map fun row => D.ntu (row.map D.int))) (.lst ((picks (ty.take i)).map fun row => D.ntu ((row ++ [p]).map D.int))) S' = .ok (.lst ((picks (ty.take (i + 1))).map fun row => D.ntu (row.map D.int))) S' := by
      simp only [oAddG, strictL]
      rw [if_pos (by simp only [List.length_map, hlen]; show _ ≤ 16777216; omega), ht, picks_snoc, List.map_append, List.map_map]
      rfl
    refine ⟨_, S', .inl ?_, rfl, some (.int p), rfl⟩
    simp only [turnOf, gNm_ap, tg_nx, seq_nx, List.set, sSet_ap, cBin_ap, cVar_ap, cVal_ap, cLc_ap, iSeq_ap, List.getElem?_cons_succ, List.getElem?_cons_zero, bind_ok, srcOf_lst, fix_n, wipeD, hlc, hadd, th_ok]
/-- one table -/
def tabL (n : Nat) (su row : List Int) : List Int := (List.range n).map fun p : Nat => ((su.countP fun i => decide (i = (p : Int)) : Nat) : Int) + ((row.countP fun i => decide (i = (p : Int)) : Nat) : Int)
theorem lrow_ok (S : Sto) (n : Nat) (hn : n ≤ 6) (su row : List Int) (x0 x1 x2 x3 x4 x5 x7 x8 x10 x11 x12 x14 : Option D) :
    lcN (.fix (rngL 0 n)) g__law_results_8 t__law_results_8 e__law_results_8 [x0, x1, x2, x3, x4, x5, none, x7, x8, some (.lst (su.map D.int)), x10, x11, x12, some (.ntu (row.map D.int)), x14] n 0 [] S = .ok ((tabL n su row).map D.int) S := by
  have := lc_rng (g := g__law_results_8) (t := t__law_results_8) (e := e__law_results_8) (env0 := [x0, x1, x2, x3, x4, x5, none, x7, x8, some (.lst (su.map D.int)), x10, x11, x12, some (.ntu (row.map D.int)), x14]) (n := n) (lo := 0) (S := S)
    (fun p : Nat => D.int ((su.countP fun i => decide (i = (p : Int)) : Nat) + (row.countP fun i => decide (i = (p : Int)) : Nat))) (by show n ≤ 16777216; omega) fun p hp => ⟨_, rfl, rfl, by
      have c1 := cntD_ints S (.lst (su.map D.int)) su p rfl
      have c2 := cntD_ints S (.ntu (row.map D.int)) row p rfl
      have hz : (0 : Int) + (p : Int) = p := by omega
      simp [count_ap, c1, c2]⟩
  rw [this, tabL, List.map_map]
  rfl
theorem lturn_ok (S : Sto) (A : Cell) (hn : vs.length ≤ 6) (su row : List Int) (ds : List D) (hl : ds.length < LIM) (x2 x3 x4 x5 x6 x7 x8 x10 x11 x13 x14 : Option D) :
    turnOf g__law_results_9 b__law_results_9 (.ntu (row.map D.int)) [some (tupI vs), some (.int s), x2, x3, x4, x5, x6, x7, x8, some (.lst (su.map D.int)), x10, x11, some (.cel (S.length + 1)), x13, x14] (S ++ [A, .lst ds])
    = .nx [some (tupI vs), some (.int s), x2, x3, x4, x5, x6, x7, x8, some (.lst (su.map D.int)), x10, x11, some (.cel (S.length + 1)), some (.ntu (row.map D.int)), x14] (S ++ [A, .lst (ds ++ if (row.length : Int) = s - su.length then [tupI (tabL vs.length su row)] else [])]) := by
  have e := lrow_ok (S ++ [A, .lst ds]) vs.length hn su row (some (tupI vs)) (some (.int s)) x2 x3 x4 x5 x7 x8 x10 x11 (some (.cel (S.length + 1))) x14
  have h4 := listOf_cel (g2b S A (.lst ds))
  have h2 := app2 S A ds (tupI (tabL vs.length su row)) hl
  have len5 : ∀ S, fLen [tupI vs] S = .ok (.int vs.length) S := fun S => by simp [tupI]
  have rg := fun S => rng1F_of S (z := (vs.length : Int)) vs.length rfl (by omega)
  have h6 : ∀ S, fTuple [.lst ((tabL vs.length su row).map D.int)] S = .ok (tupI (tabL vs.length su row)) S := fun _ => rfl
  have l1 : ∀ S, fLen [.ntu (row.map D.int)] S = .ok (.int row.length) S := fun S => by simp
  have l9 : ∀ S, fLen [.lst (su.map D.int)] S = .ok (.int su.length) S := fun S => by simp
  by_cases hq : (row.length : Int) = s - su.length
  · rw [if_pos hq]
    simp only [turnOf, gNm_ap, tg_nx, seq_nx, List.set, sIf_ap, cTst_ap, cBin_ap, cApp_ap, cCons_ap, cVar_ap, List.getElem?_cons_succ, List.getElem?_cons_zero, cNil_ap, bind_ok, l1, l9, oSub_int, oEq_int, decide_eq_true hq, asB_bl, th_ok, if_true, sDrop_ap, cMeth_ap, h4, Option.isSome_some, cVal_ap, cLc_ap, iRng1D_ap, len5, rg, fix_n, rngL_length, wipeD, e, h6, h2]
  · rw [if_neg hq, List.append_nil]
    simp only [turnOf, gNm_ap, tg_nx, seq_nx, List.set, sIf_ap, cTst_ap, cBin_ap, cApp_ap, cCons_ap, cVar_ap, List.getElem?_cons_succ, List.getElem?_cons_zero, cNil_ap, bind_ok, l1, l9, oSub_int, oEq_int, decide_eq_false hq, asB_bl, th_ok, Bool.false_eq_true, if_false, sNil_ap]
theorem ltables_ok (S : Sto) (A : Cell) (hn : vs.length ≤ 6) (su : List Int) (R : List (List Int)) (hR : R.length ≤ 64) (x2 x3 x4 x5 x6 x7 x8 x10 x11 x13 x14 : Option D) : ∃ y13,
    forN (.fix (R.map fun row => D.ntu (row.map D.int))) g__law_results_9 b__law_results_9 R.length 0 [some (tupI vs), some (.int s), x2, x3, x4, x5, x6, x7, x8, some (.lst (su.map D.int)), x10, x11, some (.cel (S.length + 1)), x13, x14] (S ++ [A, .lst []])
    = .nx [some (tupI vs), some (.int s), x2, x3, x4, x5, x6, x7, x8, some (.lst (su.map D.int)), x10, x11, some (.cel (S.length + 1)), y13, x14] (S ++ [A, .lst (((R.filter fun row => decide ((row.length : Int) = s - su.length)).map (tabL vs.length su)).map tupI)]) := by
  have hf := for_all (items := R.map fun row => D.ntu (row.map D.int)) (g := g__law_results_9) (b := b__law_results_9) (env := [some (tupI vs), some (.int s), x2, x3, x4, x5, x6, x7, x8, some (.lst (su.map D.int)), x10, x11, some (.cel (S.length + 1)), x13, x14]) (S := S ++ [A, .lst []])
    (fun i env S' => S' = S ++ [A, .lst ((((R.take i).filter fun row => decide ((row.length : Int) = s - su.length)).map (tabL vs.length su)).map tupI)] ∧ ∃ y13, env = [some (tupI vs), some (.int s), x2, x3, x4, x5, x6, x7, x8, some (.lst (su.map D.int)), x10, x11, some (.cel (S.length + 1)), y13, x14]) ⟨by simp, x13, rfl⟩ ?_
  · obtain ⟨env', S', h, rfl, y13, rfl⟩ := hf
    rw [List.length_map] at h
    rw [List.take_length] at h
    exact ⟨y13, h⟩
  · rintro i d env S' he ⟨rfl, y13, rfl⟩
    rw [List.getElem?_map] at he
    obtain ⟨row, hr, rfl⟩ := Option.map_eq_some_iff.mp he
    have ht : R.take (i + 1) = R.take i ++ [row] := by rw [List.take_add_one, hr]; rfl
    refine ⟨_, _, .inl (lturn_ok S A hn su row _ ?_ x2 x3 x4 x5 x6 x7 x8 x10 x11 y13 x14), ?_, some (.ntu (row.map D.int)), rfl⟩
    · rw [List.length_map, List.length_map]
      have := List.length_filter_le (fun row : List Int => decide ((row.length : Int) = s - su.length)) (R.take i)
      rw [List.length_take] at this
      show _ < 16777216
      omega
    · rw [ht, List.filter_append, List.map_append, List.map_append]
      by_cases hq : (row.length : Int) = s - su.length
      · simp [hq]
      · simp [hq]
end
end Q
end

section
set_option linter.all false
set_option maxRecDepth 100000
set_option maxHeartbeats 4000000
set_option autoImplicit false
/-! the law's own results are the results -/
namespace Q
open DL M
open PySem (PyData)
theorem sure_ok (S S' : Sto) (W : Int × Nat → Int) (K : List (Int × Nat)) (m : Int) (hl : K.length ≤ LIM) (hS : S'[S.length]? = some (.lst (K.map (cD W)))) (x0 x1 x2 x3 x5 x7 x9 x10 x11 x12 x13 : Option D) :
    lcN (.cel S.length K.length) g__law_results_4 t__law_results_4 e__law_results_4 [x0, x1, x2, x3, some (.cel S.length), x5, none, x7, some (.int m), x9, x10, x11, x12, x13, none] K.length 0 [] S' = .ok ((suL W m K).map D.int) S' := by
  have := lc_mapC (k := S.length) (m := K.length) (xs := K) (toD := cD W) (p := fun z => decide (m < W z)) (h := fun z => D.int z.1) (S := S') (g := g__law_results_4) (t := t__law_results_4) (e := e__law_results_4)
    (env0 := [x0, x1, x2, x3, some (.cel S.length), x5, none, x7, some (.int m), x9, x10, x11, x12, x13, none]) hS rfl hl fun z hz => ⟨_, by simp [cD]; rfl, by simp, fun _ => by simp⟩
  rw [this, suL, List.map_map]
  rfl
theorem ltie_ok (S S' : Sto) (W : Int × Nat → Int) (K : List (Int × Nat)) (m : Int) (hl : K.length ≤ LIM) (hS : S'[S.length]? = some (.lst (K.map (cD W)))) (x0 x1 x2 x3 x5 x7 x9 x10 x11 x12 x13 : Option D) :
    lcN (.cel S.length K.length) g__law_results_5 t__law_results_5 e__law_results_5 [x0, x1, x2, x3, some (.cel S.length), x5, none, x7, some (.int m), x9, x10, x11, x12, x13, none] K.length 0 [] S' = .ok ((tyL W m K).map D.int) S' := by
  have := lc_mapC (k := S.length) (m := K.length) (xs := K) (toD := cD W) (p := fun z => decide (W z = m)) (h := fun z => D.int z.1) (S := S') (g := g__law_results_5) (t := t__law_results_5) (e := e__law_results_5)
    (env0 := [x0, x1, x2, x3, some (.cel S.length), x5, none, x7, some (.int m), x9, x10, x11, x12, x13, none]) hS rfl hl fun z hz => ⟨_, by simp [cD]; rfl, by simp, fun _ => by simp⟩
  rw [this, tyL, List.map_map]
  rfl
section
variable {vs : List Int} {s : Nat} {a b m : Int}
/-- the tables made are those that the mark lets -/
theorem made_perm {n : Nat} {v : Nat → Bool} {w : Nat → Nat → Int} {M : Int} (su ty : List Int) (hsu : ∀ p < n, (su.countP fun i => decide (i = (p : Int))) = sur s v w M p) (hlen : su.length = fsum n (sur s v w M)) (hlo : fsum n (sur s v w M) < s)
    (hty : ty = ((List.range n).filter (tie s v w M)).map fun p => ((p : Nat) : Int)) :
    ((((picks ty).filter fun row => decide ((row.length : Int) = s - su.length)).map (tabL n su))).Perm (Rtabs n s v w M) := by
  have hnd : ((List.range n).filter (tie s v w M)).Nodup := List.nodup_range.filter _
  have hnd2 : ty.Nodup := by
    rw [hty]
    exact List.Pairwise.map _ (fun a b h e => h (by exact_mod_cast e)) hnd
  have e1 : ((picks ty).filter fun row => decide ((row.length : Int) = s - su.length)) = (picks ty).filter fun row => decide (row.length = s - fsum n (sur s v w M)) := List.filter_congr fun row _ => by
    rw [hlen]
    exact decide_eq_decide.mpr ⟨fun h => by omega, fun h => by omega⟩
  rw [e1]
  refine ((picks_combos hnd2 _).map _).trans ?_
  rw [hty, combos_map, List.map_map]
  refine List.Perm.of_eq (List.map_congr_left fun row hrow => ?_)
  have hr : row.Nodup := hnd.sublist (mem_combos.mp hrow).1
  have hr2 : (row.map fun p => ((p : Nat) : Int)).Nodup := List.Pairwise.map _ (fun a b h e => h (by exact_mod_cast e)) hr
  simp only [Function.comp_apply, tabL, tabI]
  refine List.map_congr_left fun p hp => ?_
  rw [hsu p (List.mem_range.mp hp), count_nodup hr2]
  congr 1
  by_cases z : p ∈ row
  · rw [if_pos z, if_pos (List.mem_map.mpr ⟨p, z, rfl⟩)]; rfl
  · rw [if_neg z, if_neg]
    · rfl
    · rintro h
      obtain ⟨q, hq, e⟩ := List.mem_map.mp h
      have : q = p := by exact_mod_cast e
      exact z (this ▸ hq)
theorem lresults_ok (V : VRes vs s a b) (ha : 1 ≤ a) (S : Sto) : ∃ J, F__law_results [tupI vs, .int s, rD a b] S = .ok (.lst ((resT vs s a b).map tupI)) (S ++ J) := by
  obtain ⟨M, hm, t, htm, htw⟩ := V.mark
  have hV := V.dec
  have hl := V.l1
  have hs := V.s1
  have h0 := V.s0
  have b0 := V.b0
  have hhi : s ≤ (KL vs s).countP fun z => decide (M ≤ Wp a b vs s z) := by
    rw [all_ge vs s (Wp a b vs s) M hV]
    exact hm.hi
  have hlo : ((KL vs s).countP fun z => decide (M < Wp a b vs s z)) < s := by
    rw [all_above]
    exact hm.lo
  have klen : (KL vs s).length ≤ 6 * 90 := Nat.le_trans (KLf_len s vs 0) (Nat.mul_le_mul hl hs)
  have klen2 : s ≤ (KL vs s).length := Nat.le_trans hhi List.countP_le_length
  obtain ⟨ml, hml⟩ : ∃ ml, Wl a b vs s t = ml := ⟨_, rfl⟩
  have hM : M = dv a b s * ml := by rw [← htw, wl_scale ha b0 t htm, hml]
  have cLt : ((KL vs s).countP fun z => decide (ml < Wl a b vs s z)) = (KL vs s).countP fun z => decide (M < Wp a b vs s z) := List.countP_congr fun z hz => by
    simp only [decide_eq_true_eq, hM]
    exact (scale_lt ha b0 z hz).1
  have cLe : ((KL vs s).countP fun z => decide (ml ≤ Wl a b vs s z)) = (KL vs s).countP fun z => decide (M ≤ Wp a b vs s z) := List.countP_congr fun z hz => by
    simp only [decide_eq_true_eq, hM]
    exact (scale_lt ha b0 z hz).2.2
  obtain ⟨x, hx, e1, e2, e3⟩ := fallsR (Wl a b vs s) (KL vs s) (s - 1) (by omega)
  have ex : Wl a b vs s x = ml := by
    have := place_one (Wl a b vs s) (KL vs s) (s - 1) x t ⟨e2, e3⟩ (by rw [hml, cLt, cLe]; exact ⟨by omega, by omega⟩)
    rw [this, hml]
  have ety : tyL (Wl a b vs s) ml (KL vs s) = ((List.range vs.length).filter (tie s (vB vs) (wB (Wp a b vs s)) M)).map fun p => ((p : Nat) : Int) := by
    rw [← ty_ok vs s (Wp a b vs s) M hV]
    unfold tyL
    congr 1
    refine List.filter_congr fun z hz => ?_
    rw [hM]
    exact decide_eq_decide.mpr (scale_lt ha b0 z hz).2.1
  have esu : ∀ p < vs.length, ((suL (Wl a b vs s) ml (KL vs s)).countP fun i => decide (i = (p : Int))) = sur s (vB vs) (wB (Wp a b vs s)) M p := fun p hp => by
    rw [su_cnt, ← cnt_sur vs s (Wp a b vs s) M hp]
    unfold cnt
    refine List.countP_congr fun z hz => ?_
    have := (scale_lt (m := ml) ha b0 z hz).1
    rw [hM]
    simp only [Bool.and_eq_true, decide_eq_true_eq, this]
  have elen : (suL (Wl a b vs s) ml (KL vs s)).length = fsum vs.length (sur s (vB vs) (wB (Wp a b vs s)) M) := by
    rw [su_len, cLt, all_above]
  have hperm := made_perm (suL (Wl a b vs s) ml (KL vs s)) (tyL (Wl a b vs s) ml (KL vs s)) esu elen hm.lo ety
  have hres : sortI (((picks (tyL (Wl a b vs s) ml (KL vs s))).filter fun row => decide ((row.length : Int) = s - (suL (Wl a b vs s) ml (KL vs s)).length)).map (tabL vs.length (suL (Wl a b vs s) ml (KL vs s)))) = resT vs s a b := by
    rw [sortI_perm_eq hperm (hperm.nodup_iff.mpr Rtabs_nodup), ← resT_eq (sortI_asc Rtabs_nodup) fun t => mem_sortI.trans (isRes_iff V hm t)]
  rw [← hres]
  have tyl : (tyL (Wl a b vs s) ml (KL vs s)).length ≤ 6 := by
    rw [ety, List.length_map]
    exact Nat.le_trans (List.length_filter_le _ _) (by simpa using hl)
  have tyasc : (tyL (Wl a b vs s) ml (KL vs s)).Pairwise (· < ·) := by
    rw [ety, List.pairwise_map]
    exact (List.pairwise_lt_range.sublist List.filter_sublist).imp fun h => by exact_mod_cast h
  obtain ⟨ts1, ts2⟩ := sort_asc_ints tyasc
  have hst := fun S => sorted_of (S := S) (rev := false) (listOf_lst S ((tyL (Wl a b vs s) ml (KL vs s)).map D.int)) ts1
  rw [ts2] at hst
  obtain ⟨w5, hwhole⟩ := lwhole_ok V.a0 V.a1 (show 0 ≤ b by omega) V.b1 hs (S ++ [.lst []]) (some (tupI vs)) (some (.int s)) (some (.cel S.length)) none none none none none none none none none none
  obtain ⟨y5, y6, y7, hclaims⟩ := lclaims_ok ha V.a1 b0 V.b1 hl V.lo V.hi hs S w5 none none none none none none none none none
  have hN : (KL vs s).length ≤ LIM := by show _ ≤ 16777216; omega
  have hsure := fun x7 x9 x10 x11 x12 x13 x5 => sure_ok S (S ++ [.lst ((KL vs s).map (cD (Wl a b vs s)))]) (Wl a b vs s) (KL vs s) ml hN (get_last _ _) (some (tupI vs)) (some (.int s)) (some (rD a b)) (some (.int (whl a b s))) x5 x7 x9 x10 x11 x12 x13
  have htie := fun x7 x9 x10 x11 x12 x13 x5 => ltie_ok S (S ++ [.lst ((KL vs s).map (cD (Wl a b vs s)))]) (Wl a b vs s) (KL vs s) ml hN (get_last _ _) (some (tupI vs)) (some (.int s)) (some (rD a b)) (some (.int (whl a b s))) x5 x7 x9 x10 x11 x12 x13
  have hsrt := sorted_of (rev := false) (listOf_last S ((KL vs s).map (cD (Wl a b vs s)))) (sortB_cD _ _)
  have hix : ∀ S', oIx (.lst (sortD false ((KL vs s).map (cD (Wl a b vs s)))).reverse) (.int ((s : Int) - 1)) S' = .ok (.tup [.int ml, .int x.1]) S' := fun S' => by
    rw [show (s : Int) - 1 = ((s - 1 : Nat) : Int) by omega]
    exact ix_seq rfl (by rw [e1, ← ex]; rfl)
  have hsrc : srcOf (.cel S.length) (S ++ [.lst ((KL vs s).map (cD (Wl a b vs s)))]) = .ok (.cel S.length (KL vs s).length) (S ++ [.lst ((KL vs s).map (cD (Wl a b vs s)))]) := by
    rw [src_last, List.length_map]
  generalize tyL (Wl a b vs s) ml (KL vs s) = ty at *
  generalize suL (Wl a b vs s) ml (KL vs s) = su at *
  generalize (KL vs s).map (cD (Wl a b vs s)) = CL at *
  generalize (KL vs s).length = N at *
  obtain ⟨T, hT⟩ : ∃ T, ((picks ty).filter fun row => decide ((row.length : Int) = s - su.length)).map (tabL vs.length su) = T := ⟨_, rfl⟩
  rw [hT]
  have hTb : sortB (T.map tupI) = true := sortB_tupI _ fun t ht => by
    rw [← hT] at ht
    obtain ⟨row, _, rfl⟩ := List.mem_map.mp ht
    intro z
    have := congrArg List.length z
    have l0 := V.l0
    simp only [tabL, List.length_map, List.length_range, List.length_nil] at this
    omega
  refine ⟨[.lst CL, .lst (T.map tupI)], ?_⟩
  have hl2 : listOf (S ++ [.lst CL, .lst (T.map tupI)]) (.cel (S.length + 1)) = some (T.map tupI) := listOf_cel (g2b _ _ _)
  have hs3 := sorted_of (rev := false) hl2 hTb
  rw [sortD_tupI] at hs3
  have len5 : ∀ S, fLen [tupI vs] S = .ok (.int vs.length) S := fun S => by simp [tupI]
  have hr1 : ∀ S, rng1F [.int (s : Int)] S = .ok (.fix (rngL 0 s)) S := fun S => rng1F_of S s rfl (by omega)
  have hr2 : ∀ S, rng1F [.int (vs.length : Int)] S = .ok (.fix (rngL 0 vs.length)) S := fun S => rng1F_of S vs.length rfl (by omega)
  have he : entry 15 [tupI vs, .int s, rD a b] = [some (tupI vs), some (.int s), some (rD a b), none, none, none, none, none, none, none, none, none, none, none, none] := rfl
  simp only [F__law_results, runF_ap, List.length_cons, List.length_nil, c__law_results, he]
  clear he e1 e2 e3 hm
  simp only [sSeq_ap, sPar_ap, cCons_ap, cK_ap, cBox_ap, cLst_ap, cNil_ap, bind_ok, List.length_nil, if_pos (Nat.zero_le LIM), th_ok, List.set, seq_nx, sFor_ap, iRng1D_ap, cVar_ap, List.getElem?_cons_succ, List.getElem?_cons_zero, hr1, fix_n, rngL_length, hwhole, cApp_ap, len5, List.length_cons, hr2]
  simp only [hclaims]
  simp only [seq_nx, sSeq_ap, sSet_ap, cBin_ap, cVal_ap, cRev_ap, cAppF_ap, cCons_ap, cNil_ap, cVar_ap, List.getElem?_cons_succ, List.getElem?_cons_zero, bind_ok, hsrt, listOf_lst, cK_ap, oSub_int, hix, ix_tup0, th_ok, List.set, cLc_ap, iSeq_ap, hsrc, cel_n, wipeD, hsure, htie, hst, sPar_ap, cLst_ap, cTupN_ap, List.length_nil, if_pos (Nat.zero_le LIM), List.length_cons, if_pos (show 0 + 1 ≤ LIM by decide)]
  clear hsrt hclaims hwhole
  obtain ⟨z6, hfound⟩ := found_ok ty tyl (S ++ [.lst CL]) (some (tupI vs)) (some (.int s)) (some (rD a b)) (some (.int (whl a b s))) (some (.cel S.length)) y5 y6 y7 (some (.int ml)) (some (.lst (su.map D.int))) (some (.lst (ty.map D.int))) none none
  have h64 : (picks ty).length ≤ 64 := by
    rw [picks_len _ ty rfl]
    exact Nat.le_trans (Nat.pow_le_pow_right (by omega) tyl) (by decide)
  obtain ⟨z13, htab⟩ := ltables_ok (s := s) S (.lst CL) hl su (picks ty) h64 (some (rD a b)) (some (.int (whl a b s))) (some (.cel S.length)) y5 z6 y7 (some (.int ml)) (some (.lst (ty.map D.int))) (some (.lst ((picks ty).map fun row => .ntu (row.map D.int)))) none none
  rw [hT] at htab
  simp only [sSeq_ap, sFor_ap, iSeq_ap, cVar_ap, List.getElem?_cons_succ, List.getElem?_cons_zero, bind_ok, srcOf_lst, th_ok, fix_n, List.length_map, hfound, seq_nx, sSet_ap, cBox_ap, cLst_ap, cNil_ap, List.length_nil, if_pos (Nat.zero_le LIM), List.set, List.length_append, List.length_cons, Nat.zero_add, List.append_assoc, List.cons_append, List.nil_append, htab, sRet_ap, cVal_ap, cAppF_ap, cCons_ap, hs3, if_true]
end
end Q
end

section
set_option linter.all false
set_option maxRecDepth 100000
set_option maxHeartbeats 4000000
set_option autoImplicit false
/-! divisors; polls whose rule asks (law k42) -/
namespace Q
open DL M
section
variable {vs : List Int} {s : Nat} {a b : Int}
theorem divisor_ok (h1 : 0 ≤ b) (h2 : b ≤ 9) (k : Int) (S : Sto) : F_divisor [rD a b, .int k] S = .ok (.int (a + b * (k - 1))) S := by
  have i0 : ∀ S, oIx (rD a b) (.int 0) S = .ok (.int a) S := fun S => ix_tup0 _ _ _
  have i1 : ∀ S, oIx (rD a b) (.int 1) S = .ok (.int b) S := fun S => ix_tup1 _ _ _ _
  simp [F_divisor, c_divisor, entry, i0, i1, mulS h1 (show b ≤ 1000000000000 by omega)]
theorem does_ask_ok (ha : 1 ≤ a) (S : Sto) : F_does_ask [pollD vs s a b] S = .ok (.bl true) S := by
  have i0 : ∀ S, oIx (rD a b) (.int 0) S = .ok (.int a) S := fun S => ix_tup0 _ _ _
  have he : entry 1 [pollD vs s a b] = [some (pollD vs s a b)] := rfl
  simp only [F_does_ask, runF_ap, List.length_cons, List.length_nil, c_does_ask, he, sRet_ap, cBin_ap, cUn_ap, cVar_ap, cK_ap, List.getElem?_cons_zero, bind_ok, fld_rule, i0, oGt_int, decide_eq_true (show 0 < a by omega), th_ok, if_true]
theorem check_asked_ok (ha : 1 ≤ a) (S : Sto) : F_check_asked [pollD vs s a b] S = .ok .non S := by
  have c0 := fun S => does_ask_ok (vs := vs) (s := s) (b := b) ha S
  have he : entry 1 [pollD vs s a b] = [some (pollD vs s a b)] := rfl
  simp only [F_check_asked, runF_ap, List.length_cons, List.length_nil, c_check_asked, he, sSeq_ap, sDrop_ap, cApp_ap, cCons_ap, cVar_ap, cNil_ap, List.getElem?_cons_zero, bind_ok, check_poll_ok, th_ok, seq_nx, sIf_ap, cNotT_ap, cTst_ap, c0, asB_bl, Bool.not_true, Bool.false_eq_true, if_false, sNil_ap, if_true]
end
end Q
end

section
set_option linter.all false
set_option maxRecDepth 100000
set_option maxHeartbeats 4000000
set_option autoImplicit false
/-! votes for a table, as the program finds them (printed by mksu1.py; laws k44, k45, k53, k55) -/
namespace Q
open DL M
theorem whl_s (t : DTn) (b : DSn) (m : Nat) (env : Env) (S : Sto) : whlN t b (m + 1) env S = (t env S).th env fun k S1 => if k = true then (b env S1).lp (whlN t b m) else .nx env S1 := (rfl)
theorem rep_sum (n : Nat) (c : Int) : (List.replicate n c).sum = n * c := by
  induction n with
  | zero => simp
  | succ n ih =>
    rw [List.replicate_succ, List.sum_cons, ih, show ((n + 1 : Nat) : Int) = (n : Int) + 1 by omega, Int.add_mul]
    omega
def pD (p : Int × Int) : D := .tup [.int p.1, .int p.2]
def tabF (f : Nat → Nat) (n : Nat) : List Int := (List.range n).map fun q => ((f q : Nat) : Int)
theorem tabF_get {f : Nat → Nat} {n i : Nat} (hi : i < n) : (tabF f n).getD i 0 = f i := by
  unfold tabF
  rw [List.getD_eq_getElem?_getD, List.getElem?_map, List.getElem?_range hi]
  rfl
theorem tabF_len {f : Nat → Nat} {n : Nat} : (tabF f n).length = n := by simp [tabF]
theorem zip_len : ∀ (as bs : List D), as.length = bs.length → (zipL as bs).length = as.length
  | [], [], _ => rfl
  | [], _ :: _, h => by simp at h
  | _ :: _, [], h => by simp at h
  | a :: as, b :: bs, h => by
    show (zipL as bs).length + 1 = as.length + 1
    rw [zip_len as bs (by simpa using h)]
theorem zip_at {us ws : List Int} {i : Nat} {d : D} (h : (zipL (us.map D.int) (ws.map D.int))[i]? = some d) : i < us.length ∧ d = .tup [.int (us.getD i 0), .int (ws.getD i 0)] := by
  obtain ⟨x, y, h1, h2, rfl⟩ := zipL_get _ _ _ _ h
  rw [List.getElem?_map] at h1 h2
  obtain ⟨u, e1, rfl⟩ := Option.map_eq_some_iff.mp h1
  obtain ⟨w, e2, rfl⟩ := Option.map_eq_some_iff.mp h2
  refine ⟨(List.getElem?_eq_some_iff.mp e1).1, ?_⟩
  rw [List.getD_eq_getElem?_getD, List.getD_eq_getElem?_getD, e1, e2]
  rfl
section
variable {vs ws : List Int} {s : Nat} {a b : Int} {f : Nat → Nat} {p q : Int × Int}
theorem lowestP_ok {x y : Int} (hx : 0 ≤ x) (hy : 0 < y) (hy' : y ≤ 1000000000) (S : Sto) : F_lowest [.int x, .int y] S = .ok (pD (lowP x y)) S := by
  have g0 : 0 < Int.gcd x y := Int.gcd_pos_of_ne_zero_right x (by omega)
  have gl : (Int.gcd x y : Int) ≤ y := Int.le_of_dvd hy (Int.gcd_dvd_right x y)
  have d1 := fun z S => oDiv_int S z (Int.gcd x y : Int) (by omega) (log_small (by omega) (by omega))
  have l2 : (0 : Nat) + 1 + 1 ≤ LIM := by decide
  have gc : ∀ S, fGcd [.int x, .int y] S = .ok (.int (Int.gcd x y : Nat)) S := fun _ => rfl
  have he : entry 3 [.int x, .int y] = [some (.int x), some (.int y), none] := rfl
  simp only [F_lowest, runF_ap, List.length_cons, List.length_nil, c_lowest, he, sSeq_ap, sSet_ap, cApp_ap, cCons_ap, cVar_ap, cNil_ap, List.getElem?_cons_succ, List.getElem?_cons_zero, bind_ok, gc, th_ok, List.set, seq_nx, sRet_ap, cTup_ap, cBin_ap, d1, List.length_cons, List.length_nil, if_pos l2, pD, lowP, if_true]
theorem lessP_ok (p0 : 0 ≤ p.1) (p1 : p.1 ≤ 1000000) (q0 : 0 ≤ q.1) (q1 : q.1 ≤ 1000000) (S : Sto) : F_is_less [pD p, pD q] S = .ok (.bl (decide (pLt p q))) S := by
  have i0 : ∀ (x y : Int) S, oIx (.tup [.int x, .int y]) (.int 0) S = .ok (.int x) S := fun x y S => rfl
  have i1 : ∀ (x y : Int) S, oIx (.tup [.int x, .int y]) (.int 1) S = .ok (.int y) S := fun x y S => rfl
  have m1 := fun S => mulS (y := q.2) p0 (show p.1 ≤ 1000000000000 by omega) S
  have m2 := fun S => mulS (y := p.2) q0 (show q.1 ≤ 1000000000000 by omega) S
  have he : entry 2 [pD p, pD q] = [some (.tup [.int p.1, .int p.2]), some (.tup [.int q.1, .int q.2])] := rfl
  simp only [F_is_less, runF_ap, List.length_cons, List.length_nil, c_is_less, he, sRet_ap, cBin_ap, cVar_ap, cK_ap, List.getElem?_cons_succ, List.getElem?_cons_zero, bind_ok, i0, i1, m1, m2, oLt_int, th_ok, if_true]
  rfl
theorem dv_of (k : Nat) : a + b * (((k : Nat) : Int) + 1 - 1) = dv a b k := by
  unfold dv
  rw [Int.add_sub_cancel]
theorem dv_of' {k : Nat} (hk : 0 < k) : a + b * (((k : Nat) : Int) - 1) = dv a b (k - 1) := by
  unfold dv
  have : ((k : Nat) : Int) - 1 = ((k - 1 : Nat) : Int) := by omega
  rw [this]
theorem dv_small (a0 : 0 ≤ a) (a9 : a ≤ 9) (b0 : 0 ≤ b) (b9 : b ≤ 9) {k : Nat} (hk : k ≤ 15) : 0 ≤ dv a b k ∧ dv a b k ≤ 144 := by
  unfold dv
  have h0 := Int.mul_nonneg b0 (show (0 : Int) ≤ k by omega)
  have h1 := Int.mul_le_mul_of_nonneg_left (show ((k : Nat) : Int) ≤ 15 by omega) b0
  omega
/-- the votes at a price -/
theorem votes_at_ok (V : VPoll vs s a b) (ha : 1 ≤ a) (h15 : ∀ i < vs.length, f i ≤ 15) (n0 : 0 ≤ p.1) (d0 : 0 < p.2) (d1 : p.2 ≤ 1000000) (S : Sto) : ∃ J, F_votes_at [pollD vs s a b, tupI (tabF f vs.length), pD p] S = .ok (tupI (atW vs a b f p)) (S ++ J) := by
  have l1 := V.v.l1
  have he : entry 7 [pollD vs s a b, tupI (tabF f vs.length), pD p] = [some (pollD vs s a b), some (tupI (tabF f vs.length)), some (pD p), none, none, none, none] := rfl
  have zl : (zipL (vs.map D.int) ((tabF f vs.length).map D.int)).length = vs.length := by
    rw [zip_len _ _ (by rw [List.length_map, List.length_map, tabF_len]), List.length_map]
  have loop := for_all (items := zipL (vs.map D.int) ((tabF f vs.length).map D.int)) (g := g_votes_at_3) (b := b_votes_at_3) (env := [some (pollD vs s a b), some (tupI (tabF f vs.length)), some (pD p), some (.cel S.length), none, none, none]) (S := S ++ [.lst []])
    (fun i env S' => S' = S ++ [.lst ((List.range i).map fun j => D.int (atV vs a b f p j))] ∧ ∃ y4 y5 y6, env = [some (pollD vs s a b), some (tupI (tabF f vs.length)), some (pD p), some (.cel S.length), y4, y5, y6]) ⟨rfl, none, none, none, rfl⟩ (by
      rintro i d env S' hd ⟨rfl, y4, y5, y6, rfl⟩
      obtain ⟨hi, rfl⟩ := zip_at hd
      rw [tabF_get hi]
      have dk := fun S => divisor_ok (a := a) (show 0 ≤ b by have := V.b0; omega) V.b1 ((f i : Nat) : Int) S
      have i0 : ∀ S, oIx (pD p) (.int 0) S = .ok (.int p.1) S := fun S => rfl
      have i1 : ∀ S, oIx (pD p) (.int 1) S = .ok (.int p.2) S := fun S => rfl
      have dd := fun z S => oDiv_int S z p.2 d0 (log_small d0 (by omega))
      have la : ((List.range i).map fun j => D.int (atV vs a b f p j)).length < LIM := by
        rw [List.length_map, List.length_range]
        show i < 16777216
        omega
      have ng : ∀ z S, oNeg (.int z) S = .ok (.int (-z)) S := fun z S => rfl
      have ap := fun y => app_last S ((List.range i).map fun j => D.int (atV vs a b f p j)) y la
      have hfin : ((List.range i).map fun j => D.int (atV vs a b f p j)) ++ [.int (max (vs.getD i 0) (-(-(if 0 < f i then dv a b (f i - 1) * p.1 else 0) / p.2)))] = (List.range (i + 1)).map fun j => D.int (atV vs a b f p j) := by
        rw [List.range_succ, List.map_append]
        rfl
      rw [← hfin]
      by_cases z : 0 < f i
      · have c1 : decide ((0 : Int) < ((f i : Nat) : Int)) = true := decide_eq_true (by omega)
        have hb := dv_small (b := b) (show 0 ≤ a by omega) V.a1 (show 0 ≤ b by have := V.b0; omega) V.b1 (k := f i - 1) (by have := h15 i hi; omega)
        rw [dv_of' z] at dk
        have mm := fun S => mulS (y := p.1) hb.1 (show dv a b (f i - 1) ≤ 1000000000000 by omega) S
        rw [if_pos z]
        refine ⟨_, _, .inl ?_, rfl, some (.int (vs.getD i 0)), some (.int ((f i : Nat) : Int)), some (.int (dv a b (f i - 1) * p.1)), rfl⟩
        simp only [turnOf, gTpn_tup, List.length_cons, List.length_nil, Nat.zero_add, Nat.reduceAdd, if_true, gsCons_cons, gNm_ap, seq_nx, gsNil_nil, tg_nx, List.set, sSeq_ap, sSet_ap, cIf_ap, cTst_ap, cBin_ap, cUn_ap, cApp_ap, cCons_ap, cVar_ap, cK_ap, cNil_ap, List.getElem?_cons_succ, List.getElem?_cons_zero, bind_ok, oGt_int, c1, asB_bl, fld_rule, dk, i0, i1, mm, th_ok, sDrop_ap, cMeth_ap, ng, dd, max_ii, listOf_last, Option.isSome_some, ap]
      · have c1 : decide ((0 : Int) < ((f i : Nat) : Int)) = false := decide_eq_false (by omega)
        rw [if_neg z]
        refine ⟨_, _, .inl ?_, rfl, some (.int (vs.getD i 0)), some (.int ((f i : Nat) : Int)), some (.int 0), rfl⟩
        simp only [turnOf, gTpn_tup, List.length_cons, List.length_nil, Nat.zero_add, Nat.reduceAdd, if_true, gsCons_cons, gNm_ap, seq_nx, gsNil_nil, tg_nx, List.set, sSeq_ap, sSet_ap, cIf_ap, cTst_ap, cBin_ap, cUn_ap, cApp_ap, cCons_ap, cVar_ap, cK_ap, cNil_ap, List.getElem?_cons_succ, List.getElem?_cons_zero, bind_ok, oGt_int, c1, asB_bl, Bool.false_eq_true, if_false, i1, th_ok, sDrop_ap, cMeth_ap, ng, dd, max_ii, listOf_last, Option.isSome_some, ap])
  obtain ⟨_, _, e, rfl, y4, y5, y6, rfl⟩ := loop
  rw [zl] at e
  have h4 : ∀ r, (s_votes_at_4 [some (pollD vs s a b), some (tupI (tabF f vs.length)), some (pD p), none, none, none, none] S).seq r = r [some (pollD vs s a b), some (tupI (tabF f vs.length)), some (pD p), some (.cel S.length), none, none, none] (S ++ [.lst []]) := fun r => by
    simp only [sSet_ap, cBox_ap, cLst_ap, cNil_ap, bind_ok, List.length_nil, Nat.zero_le, if_true, th_ok, List.set, seq_nx]
  have zs : ∀ S0, (cCons (cUn (fldD ["Poll"] "votes") (cVar 0)) (cCons (cVar 1) cNil)) [some (pollD vs s a b), some (tupI (tabF f vs.length)), some (pD p), some (.cel S.length), none, none, none] S0 = .ok [.tup (vs.map D.int), .tup ((tabF f vs.length).map D.int)] S0 := fun S0 => by
    simp only [cCons_ap, cUn_ap, cVar_ap, cNil_ap, List.getElem?_cons_succ, List.getElem?_cons_zero, bind_ok, fld_votes, tupI]
  have h5 : ∀ r, (s_votes_at_5 [some (pollD vs s a b), some (tupI (tabF f vs.length)), some (pD p), some (.cel S.length), none, none, none] (S ++ [.lst []])).seq r = r [some (pollD vs s a b), some (tupI (tabF f vs.length)), some (pD p), some (.cel S.length), y4, y5, y6] (S ++ [.lst ((List.range vs.length).map fun j => D.int (atV vs a b f p j))]) := fun r => by
    show ((sFor _ _ _) _ _).seq r = _
    rw [sFor_ap]
    have hz : iZipD (cCons (cUn (fldD ["Poll"] "votes") (cVar 0)) (cCons (cVar 1) cNil)) [some (pollD vs s a b), some (tupI (tabF f vs.length)), some (pD p), some (.cel S.length), none, none, none] (S ++ [.lst []]) = .ok (.fix (zipL (vs.map D.int) ((tabF f vs.length).map D.int))) (S ++ [.lst []]) := by
      unfold iZipD
      rw [zs]
      rfl
    rw [hz, th_ok]
    simp only [fix_n, zl, e, seq_nx]
  have tp : fTuple [.cel S.length] (S ++ [.lst ((List.range vs.length).map fun j => D.int (atV vs a b f p j))]) = .ok (tupI (atW vs a b f p)) (S ++ [.lst ((List.range vs.length).map fun j => D.int (atV vs a b f p j))]) := by
    simp only [fTuple, listOf_last]
    have : tupI (atW vs a b f p) = .tup ((List.range vs.length).map fun j => D.int (atV vs a b f p j)) := by
      unfold tupI atW
      rw [List.map_map]
      rfl
    rw [this]
  refine ⟨[.lst ((List.range vs.length).map fun j => D.int (atV vs a b f p j))], ?_⟩
  have hb : c_votes_at [some (pollD vs s a b), some (tupI (tabF f vs.length)), some (pD p), none, none, none, none] S = .ret (tupI (atW vs a b f p)) (S ++ [.lst ((List.range vs.length).map fun j => D.int (atV vs a b f p j))]) := by
    unfold c_votes_at
    rw [sSeq_ap, h4, sSeq_ap, h5]
    simp only [sRet_ap, cApp_ap, cCons_ap, cVar_ap, cNil_ap, List.getElem?_cons_succ, List.getElem?_cons_zero, bind_ok, tp, th_ok]
  simp only [F_votes_at, runF_ap, List.length_cons, List.length_nil, he, hb, if_true]
theorem lp_small (a0 : 1 ≤ a) (a9 : a ≤ 9) (b0 : 0 ≤ b) (b9 : b ≤ 9) {k : Nat} (h0 : ∀ i < k, 0 ≤ ws.getD i 0) (h1 : ∀ i < k, ws.getD i 0 ≤ 144000) (h15 : ∀ i < k, f i ≤ 15) (h : LP a b f ws k p) : p.1 ≤ 144000 ∧ p.2 ≤ 144 := by
  rcases h.att with e | ⟨i, hi, e⟩
  · rw [e]
    exact ⟨by show (0 : Int) ≤ 144000; omega, by show (1 : Int) ≤ 144; omega⟩
  · have d1 := dv_pos' (b := b) a0 b0 (f i)
    have d2 := dv_small (b := b) (show 0 ≤ a by omega) a9 b0 b9 (h15 i hi)
    obtain ⟨_, _, q2, q3, _⟩ := lowP_ok (h0 i hi) (show 0 < dv a b (f i) by omega)
    rw [← e] at q2 q3
    have := h1 i hi
    omega
/-- the least price -/
theorem least_price_ok (V : VPoll vs s a b) (ha : 1 ≤ a) (h15 : ∀ i < vs.length, f i ≤ 15) (hl : ws.length = vs.length) (h0 : ∀ i < ws.length, 0 ≤ ws.getD i 0) (h1 : ∀ i < ws.length, ws.getD i 0 ≤ 144000) (S : Sto) : F_least_price [pollD vs s a b, tupI (tabF f vs.length), tupI ws] S = .ok (pD (leastP a b f ws)) S := by
  have l1 := V.v.l1
  have b0 : 0 ≤ b := by have := V.b0; omega
  have he : entry 7 [pollD vs s a b, tupI (tabF f vs.length), tupI ws] = [some (pollD vs s a b), some (tupI (tabF f vs.length)), some (tupI ws), none, none, none, none] := rfl
  have zl : (zipL (ws.map D.int) ((tabF f vs.length).map D.int)).length = ws.length := by
    rw [zip_len _ _ (by rw [List.length_map, List.length_map, tabF_len, hl]), List.length_map]
  have loop := for_all (items := zipL (ws.map D.int) ((tabF f vs.length).map D.int)) (g := g_least_price_3) (b := b_least_price_3) (env := [some (pollD vs s a b), some (tupI (tabF f vs.length)), some (tupI ws), some (pD (0, 1)), none, none, none]) (S := S)
    (fun i env S' => S' = S ∧ i ≤ ws.length ∧ ∃ y4 y5 y6, env = [some (pollD vs s a b), some (tupI (tabF f vs.length)), some (tupI ws), some (pD ((List.range i).foldl (lpStep a b f ws) (0, 1))), y4, y5, y6]) ⟨rfl, Nat.zero_le _, none, none, none, rfl⟩ (by
      rintro i d env S' hd ⟨rfl, hi', y4, y5, y6, rfl⟩
      obtain ⟨hi, rfl⟩ := zip_at hd
      have hi2 : i < vs.length := by omega
      rw [tabF_get hi2]
      have LPi := lp_upto (f := f) ha b0 h0 i hi'
      have sm := lp_small ha V.a1 b0 V.b1 (fun j hj => h0 j (by omega)) (fun j hj => h1 j (by omega)) (fun j hj => h15 j (by omega)) LPi
      rw [List.range_succ, List.foldl_append]
      generalize (List.range i).foldl (lpStep a b f ws) (0, 1) = r at *
      have dk := fun S => divisor_ok (a := a) b0 V.b1 (((f i : Nat) : Int) + 1) S
      rw [dv_of] at dk
      have d1 := dv_pos' (b := b) ha b0 (f i)
      have d2 := dv_small (b := b) (show 0 ≤ a by omega) V.a1 b0 V.b1 (h15 i hi2)
      have lo := fun S => lowestP_ok (h0 i hi) (show 0 < dv a b (f i) by omega) (by omega) S
      obtain ⟨q0, q1, q2, q3, _⟩ := lowP_ok (h0 i hi) (show 0 < dv a b (f i) by omega)
      have le := fun S => lessP_ok (p := r) (q := lowP (ws.getD i 0) (dv a b (f i))) LPi.n0 (by omega) q0 (by have := h1 i hi; omega) S
      refine ⟨_, _, .inl ?_, rfl, hi, some (.int (ws.getD i 0)), some (.int ((f i : Nat) : Int)), some (pD (lowP (ws.getD i 0) (dv a b (f i)))), rfl⟩
      simp only [turnOf, gTpn_tup, List.length_cons, List.length_nil, Nat.zero_add, Nat.reduceAdd, if_true, gsCons_cons, gNm_ap, seq_nx, gsNil_nil, tg_nx, List.set, sSeq_ap, sSet_ap, cIf_ap, cTst_ap, cBin_ap, cUn_ap, cApp_ap, cCons_ap, cVar_ap, cK_ap, cNil_ap, List.getElem?_cons_succ, List.getElem?_cons_zero, bind_ok, fld_rule, oAddG_int, dk, lo, th_ok, le, asB_bl, List.foldl_cons, List.foldl_nil, lpStep]
      by_cases z : pLt r (lowP (ws.getD i 0) (dv a b (f i)))
      · simp only [decide_eq_true z, if_true, if_pos z, List.getElem?_cons_succ, List.getElem?_cons_zero, bind_ok, th_ok, List.set]
      · simp only [decide_eq_false z, Bool.false_eq_true, if_false, if_neg z, List.getElem?_cons_succ, List.getElem?_cons_zero, bind_ok, th_ok, List.set])
  obtain ⟨_, S', e, hS', _, y4, y5, y6, rfl⟩ := loop
  rw [zl, hS'] at e
  have l2 : (0 : Nat) + 1 + 1 ≤ LIM := by decide
  have h4 : ∀ r, (s_least_price_4 [some (pollD vs s a b), some (tupI (tabF f vs.length)), some (tupI ws), none, none, none, none] S).seq r = r [some (pollD vs s a b), some (tupI (tabF f vs.length)), some (tupI ws), some (pD (0, 1)), none, none, none] S := fun r => by
    simp only [sSet_ap, cTup_ap, cCons_ap, cK_ap, cNil_ap, bind_ok, List.length_cons, List.length_nil, if_pos l2, th_ok, List.set, seq_nx, pD]
  have h5 : ∀ r, (s_least_price_5 [some (pollD vs s a b), some (tupI (tabF f vs.length)), some (tupI ws), some (pD (0, 1)), none, none, none] S).seq r = r [some (pollD vs s a b), some (tupI (tabF f vs.length)), some (tupI ws), some (pD (leastP a b f ws)), y4, y5, y6] S := fun r => by
    show ((sFor _ _ _) _ _).seq r = _
    rw [sFor_ap]
    have zs : ∀ S, (cCons (cVar 2) (cCons (cVar 1) cNil)) [some (pollD vs s a b), some (tupI (tabF f vs.length)), some (tupI ws), some (pD (0, 1)), none, none, none] S = .ok [.tup (ws.map D.int), .tup ((tabF f vs.length).map D.int)] S := fun S => by
      simp only [cCons_ap, cVar_ap, cNil_ap, List.getElem?_cons_succ, List.getElem?_cons_zero, bind_ok, tupI]
    have hz : iZipD (cCons (cVar 2) (cCons (cVar 1) cNil)) [some (pollD vs s a b), some (tupI (tabF f vs.length)), some (tupI ws), some (pD (0, 1)), none, none, none] S = .ok (.fix (zipL (ws.map D.int) ((tabF f vs.length).map D.int))) S := by
      unfold iZipD
      rw [zs]
      rfl
    rw [hz, th_ok]
    simp only [fix_n, zl, e, seq_nx, leastP]
  have hb : c_least_price [some (pollD vs s a b), some (tupI (tabF f vs.length)), some (tupI ws), none, none, none, none] S = .ret (pD (leastP a b f ws)) S := by
    unfold c_least_price
    rw [sSeq_ap, h4, sSeq_ap, h5]
    simp only [sRet_ap, cVar_ap, List.getElem?_cons_succ, List.getElem?_cons_zero, bind_ok, th_ok]
  simp only [F_least_price, runF_ap, List.length_cons, List.length_nil, he, hb, if_true]
/-! ### the price goes up until all can stand it -/
abbrev wideL (vs : List Int) (a b : Int) (f : Nat → Nat) : List Int := (List.range vs.length).map (wide vs a b f)
structure PInv (vs : List Int) (a b : Int) (f : Nat → Nat) (p : Int × Int) : Prop where
  n0 : 0 ≤ p.1
  n1 : p.1 ≤ 144000
  d0 : 0 < p.2
  d1 : p.2 ≤ 144
  und : ∀ u, Stab vs u a b f → Under vs a b f p u
theorem lo_getD (V : VPoll vs s a b) : ∀ i < vs.length, 0 ≤ vs.getD i 0 := fun i hi => V.v.lo _ (getD_mem hi)
theorem hi_getD (V : VPoll vs s a b) : ∀ i < vs.length, vs.getD i 0 ≤ 1000 := fun i hi => by have := V.v.hi _ (getD_mem hi); omega
theorem Stab.nn {u : List Int} (V : VPoll vs s a b) (U : Stab vs u a b f) : ∀ i < vs.length, 0 ≤ u.getD i 0 := fun i hi => Int.le_trans (lo_getD V i hi) (U.le i hi)
theorem wideL_get {i : Nat} (hi : i < vs.length) : (wideL vs a b f).getD i 0 = wide vs a b f i := by
  rw [List.getD_eq_getElem?_getD, List.getElem?_map, List.getElem?_range hi]
  rfl
theorem wide_st (V : VPoll vs s a b) (ha : 1 ≤ a) : Stab vs (wideL vs a b f) a b f := wide_stab ha (by have := V.b0; omega) (lo_getD V) (hi_getD V)
theorem PInv.at_le (V : VPoll vs s a b) (h : PInv vs a b f p) {u : List Int} (U : Stab vs u a b f) {i : Nat} (hi : i < vs.length) : (atW vs a b f p).getD i 0 ≤ u.getD i 0 := atW_le h.d0 (U.nn V) U.le (h.und u U) hi
theorem PInv.at_bd (V : VPoll vs s a b) (ha : 1 ≤ a) (h15 : ∀ i < vs.length, f i ≤ 15) (h : PInv vs a b f p) : ∀ i < (atW vs a b f p).length, 0 ≤ (atW vs a b f p).getD i 0 ∧ (atW vs a b f p).getD i 0 ≤ 144000 := fun i hi => by
  rw [atW_len] at hi
  have b0 : 0 ≤ b := by have := V.b0; omega
  have h1 := h.at_le V (wide_st V ha) hi
  rw [wideL_get hi] at h1
  have h2 := (wide_bd ha V.a1 b0 V.b1 (lo_getD V) (hi_getD V) h15 hi).2
  have h3 := atW_ge (vs := vs) (a := a) (b := b) (f := f) (p := p) hi
  have h4 := lo_getD V i hi
  omega
theorem PInv.of (V : VPoll vs s a b) (ha : 1 ≤ a) (h15 : ∀ i < vs.length, f i ≤ 15) (hl : ws.length = vs.length) (h0 : ∀ i < ws.length, 0 ≤ ws.getD i 0) (h1 : ∀ i < ws.length, ws.getD i 0 ≤ 144000)
    (hle : ∀ u, Stab vs u a b f → ∀ i < vs.length, ws.getD i 0 ≤ u.getD i 0) : PInv vs a b f (leastP a b f ws) := by
  have b0 : 0 ≤ b := by have := V.b0; omega
  have L := least_ok (f := f) ha b0 h0
  have sm := lp_small ha V.a1 b0 V.b1 h0 h1 (fun j hj => h15 j (by omega)) L
  exact ⟨L.n0, sm.1, L.d0, sm.2, fun u U => under_least ha b0 U (U.nn V) hl (hle u U) h0 L⟩
theorem needed_loop (V : VPoll vs s a b) (ha : 1 ≤ a) (h15 : ∀ i < vs.length, f i ≤ 15) : ∀ (m : Nat) (p : Int × Int), PInv vs a b f p → (wideL vs a b f).sum - (atW vs a b f p).sum + (if pLt p (leastP a b f (atW vs a b f p)) then 2 else 1) ≤ (m : Int) → ∃ w, Need vs a b f w ∧ ∀ (S : Sto) (x4 x5 : Option D), ∃ J y2 y5,
    whlN t_needed_by_4 b_needed_by_4 (m + 1) [some (pollD vs s a b), some (tupI (tabF f vs.length)), some (pD p), some (.bl false), x4, x5] S = .nx [some (pollD vs s a b), some (tupI (tabF f vs.length)), y2, some (.bl true), some (tupI w), y5] (S ++ J) := by
  have b0 : 0 ≤ b := by have := V.b0; omega
  intro m
  induction m with
  | zero =>
    intro p I hm
    have := (sum_getD_le (ws := atW vs a b f p) (us := wideL vs a b f) (by rw [atW_len]; simp) fun i hi => I.at_le V (wide_st V ha) (by rw [atW_len] at hi; exact hi)).1
    split at hm <;> omega
  | succ m ih =>
    intro p I hm
    have bd := I.at_bd V ha h15
    have sle := (sum_getD_le (ws := atW vs a b f p) (us := wideL vs a b f) (by rw [atW_len]; simp) fun i hi => I.at_le V (wide_st V ha) (by rw [atW_len] at hi; exact hi)).1
    have L := least_ok (f := f) ha b0 fun i hi => (bd i hi).1
    have I2 : PInv vs a b f (leastP a b f (atW vs a b f p)) := PInv.of V ha h15 atW_len (fun i hi => (bd i hi).1) (fun i hi => (bd i hi).2) fun u U i hi => I.at_le V U hi
    have lp := fun S => least_price_ok V ha h15 (ws := atW vs a b f p) atW_len (fun i hi => (bd i hi).1) (fun i hi => (bd i hi).2) S
    have ls := fun S => lessP_ok (p := p) (q := leastP a b f (atW vs a b f p)) I.n0 (by have := I.n1; omega) I2.n0 (by have := I2.n1; omega) S
    have step : ∀ (S : Sto) (x4 x5 : Option D), ∃ J, ∀ r, (b_needed_by_4 [some (pollD vs s a b), some (tupI (tabF f vs.length)), some (pD p), some (.bl false), x4, x5] S).lp r
      = r [some (pollD vs s a b), some (tupI (tabF f vs.length)), some (pD (leastP a b f (atW vs a b f p))), some (.bl (!decide (pLt p (leastP a b f (atW vs a b f p))))), some (tupI (atW vs a b f p)), some (pD (leastP a b f (atW vs a b f p)))] (S ++ J) := fun S x4 x5 => by
      obtain ⟨J, e1⟩ := votes_at_ok V ha h15 I.n0 I.d0 (by have := I.d1; omega) S
      refine ⟨J, fun r => ?_⟩
      unfold b_needed_by_4
      simp only [sSeq_ap, sSet_ap, sPar_ap, cNot_ap, cApp_ap, cCons_ap, cVar_ap, cNil_ap, List.getElem?_cons_succ, List.getElem?_cons_zero, bind_ok, e1, th_ok, List.set, seq_nx, lp, ls, asB_bl, lp_nx]
    generalize hq : leastP a b f (atW vs a b f p) = q at *
    have tst : ∀ (S : Sto) (x2 x4 x5 : Option D), t_needed_by_4 [some (pollD vs s a b), some (tupI (tabF f vs.length)), x2, some (.bl false), x4, x5] S = .ok true S := fun S x2 x4 x5 => by
      simp only [cNotT_ap, cTst_ap, cVar_ap, List.getElem?_cons_succ, List.getElem?_cons_zero, bind_ok, asB_bl, Bool.not_false]
    have tst2 : ∀ (S : Sto) (x2 x4 x5 : Option D), t_needed_by_4 [some (pollD vs s a b), some (tupI (tabF f vs.length)), x2, some (.bl true), x4, x5] S = .ok false S := fun S x2 x4 x5 => by
      simp only [cNotT_ap, cTst_ap, cVar_ap, List.getElem?_cons_succ, List.getElem?_cons_zero, bind_ok, asB_bl, Bool.not_true]
    by_cases z : pLt p q
    · -- the price goes up
      rw [if_pos z] at hm
      have mono : ∀ i < vs.length, (atW vs a b f p).getD i 0 ≤ (atW vs a b f q).getD i 0 := fun i hi => atW_mono ha b0 I.d0 I2.d0 z hi
      have sm := sum_getD_le (ws := atW vs a b f p) (us := atW vs a b f q) (by rw [atW_len, atW_len]) fun i hi => mono i (by rw [atW_len] at hi; exact hi)
      have hm2 : (wideL vs a b f).sum - (atW vs a b f q).sum + (if pLt q (leastP a b f (atW vs a b f q)) then 2 else 1) ≤ (m : Int) := by
        by_cases y : atW vs a b f p = atW vs a b f q
        · rw [← y, hq, if_neg (by unfold pLt; omega)]
          omega
        · have := sm.2 y
          split <;> omega
      obtain ⟨w, hw, hrun⟩ := ih q I2 hm2
      refine ⟨w, hw, fun S x4 x5 => ?_⟩
      obtain ⟨J, e⟩ := step S x4 x5
      obtain ⟨J2, y2, y5, e2⟩ := hrun (S ++ J) (some (tupI (atW vs a b f p))) (some (pD q))
      refine ⟨J ++ J2, y2, y5, ?_⟩
      rw [decide_eq_true z] at e
      rw [whl_s, tst, th_ok, if_pos rfl, e, ← List.append_assoc]
      exact e2
    · refine ⟨_, ⟨atW_stab ha b0 (lo_getD V) I.n0 I.d0 L z, fun u U i hi => I.at_le V U hi⟩, fun S x4 x5 => ?_⟩
      obtain ⟨J, e⟩ := step S x4 x5
      refine ⟨J, some (pD q), some (pD q), ?_⟩
      rw [decide_eq_false z] at e
      rw [whl_s, tst, th_ok, if_pos rfl, e, whl_s]
      show ((t_needed_by_4 [some (pollD vs s a b), some (tupI (tabF f vs.length)), some (pD q), some (.bl true), some (tupI (atW vs a b f p)), some (pD q)] (S ++ J)).th _ _) = _
      rw [tst2, th_ok]
      rfl
theorem needed_ok (V : VPoll vs s a b) (ha : 1 ≤ a) (h15 : ∀ i < vs.length, f i ≤ 15) : ∃ w, Need vs a b f w ∧ ∀ S, ∃ J, F_needed_by [pollD vs s a b, tupI (tabF f vs.length)] S = .ok (tupI w) (S ++ J) := by
  have b0 : 0 ≤ b := by have := V.b0; omega
  have I0 : PInv vs a b f (leastP a b f vs) := PInv.of V ha h15 rfl (lo_getD V) (fun i hi => by have := hi_getD V i hi; omega) fun u U i hi => U.le i hi
  have lp := fun S => least_price_ok V ha h15 (ws := vs) rfl (lo_getD V) (fun i hi => by have := hi_getD V i hi; omega) S
  have hs : (wideL vs a b f).sum ≤ 864000 := by
    have h1 := (sum_getD_le (ws := wideL vs a b f) (us := List.replicate vs.length 144000) (by simp) fun i hi => by
      have hi : i < vs.length := by simpa using hi
      rw [wideL_get hi, List.getD_eq_getElem?_getD, List.getElem?_replicate, if_pos hi]
      exact (wide_bd ha V.a1 b0 V.b1 (lo_getD V) (hi_getD V) h15 hi).2).1
    have h2 : (List.replicate vs.length (144000 : Int)).sum = vs.length * 144000 := rep_sum _ _
    have := V.v.l1
    omega
  have h0 : 0 ≤ (atW vs a b f (leastP a b f vs)).sum := by
    have h1 := (sum_getD_le (ws := List.replicate vs.length 0) (us := atW vs a b f (leastP a b f vs)) (by simp [atW_len]) fun i hi => by
      have hi : i < vs.length := by simpa using hi
      rw [List.getD_eq_getElem?_getD, List.getElem?_replicate, if_pos hi]
      exact Int.le_trans (lo_getD V i hi) (atW_ge hi)).1
    have h2 : (List.replicate vs.length (0 : Int)).sum = 0 := by rw [rep_sum, Int.mul_zero]
    omega
  obtain ⟨w, hw, hrun⟩ := needed_loop V ha h15 9999999 (leastP a b f vs) I0 (by split <;> omega)
  refine ⟨w, hw, fun S => ?_⟩
  obtain ⟨J, y2, y5, e⟩ := hrun S none none
  have he : entry 6 [pollD vs s a b, tupI (tabF f vs.length)] = [some (pollD vs s a b), some (tupI (tabF f vs.length)), none, none, none, none] := rfl
  refine ⟨J, ?_⟩
  have h5 : ∀ r, (s_needed_by_5 [some (pollD vs s a b), some (tupI (tabF f vs.length)), none, none, none, none] S).seq r = r [some (pollD vs s a b), some (tupI (tabF f vs.length)), some (pD (leastP a b f vs)), some (.bl false), none, none] S := fun r => by
    simp only [sPar_ap, cCons_ap, cApp_ap, cUn_ap, cVar_ap, cK_ap, cNil_ap, List.getElem?_cons_succ, List.getElem?_cons_zero, bind_ok, fld_votes, lp, th_ok, List.set, seq_nx]
  have h6 : ∀ r, (s_needed_by_6 [some (pollD vs s a b), some (tupI (tabF f vs.length)), some (pD (leastP a b f vs)), some (.bl false), none, none] S).seq r = r [some (pollD vs s a b), some (tupI (tabF f vs.length)), y2, some (.bl true), some (tupI w), y5] (S ++ J) := fun r => by
    show (whlN t_needed_by_4 b_needed_by_4 10000000 _ S).seq r = _
    have e : whlN t_needed_by_4 b_needed_by_4 10000000 [some (pollD vs s a b), some (tupI (tabF f vs.length)), some (pD (leastP a b f vs)), some (.bl false), none, none] S = _ := e
    rw [e, seq_nx]
  have hb : c_needed_by [some (pollD vs s a b), some (tupI (tabF f vs.length)), none, none, none, none] S = .ret (tupI w) (S ++ J) := by
    unfold c_needed_by
    rw [sSeq_ap, h5, sSeq_ap, h6]
    simp only [sRet_ap, cVar_ap, List.getElem?_cons_succ, List.getElem?_cons_zero, bind_ok, th_ok]
  simp only [F_needed_by, runF_ap, List.length_cons, List.length_nil, he, hb, if_true]
end
end Q
end

section
set_option linter.all false
set_option maxRecDepth 100000
set_option maxHeartbeats 4000000
set_option autoImplicit false
/-! votes for a table (printed by mksu2.py; laws k44, k45, k53, k55) -/
namespace Q
open DL M
open Classical in
noncomputable def needW (vs : List Int) (a b : Int) (f : Nat → Nat) : List Int := if h : ∃ w, Need vs a b f w then Classical.choose h else []
/-- how many votes more a table needs -/
noncomputable def need (vs : List Int) (a b : Int) (f : Nat → Nat) : Int := (needW vs a b f).sum - vs.sum
theorem diff_sum : ∀ (us ws : List Int), us.length = ws.length → ((List.range us.length).map fun i => us.getD i 0 - ws.getD i 0).sum = us.sum - ws.sum
  | [], [], _ => by simp
  | [], _ :: _, h => by simp at h
  | _ :: _, [], h => by simp at h
  | u :: us, w :: ws, h => by
    have ih := diff_sum us ws (by simpa using h)
    rw [List.length_cons, List.range_succ_eq_map, List.map_cons, List.map_map, List.sum_cons, List.sum_cons, List.sum_cons]
    have : ((List.range us.length).map ((fun i => (u :: us).getD i 0 - (w :: ws).getD i 0) ∘ Nat.succ)) = (List.range us.length).map fun i => us.getD i 0 - ws.getD i 0 := List.map_congr_left fun i _ => rfl
    rw [this, ih]
    show u - w + (us.sum - ws.sum) = _
    omega
section
variable {vs ws : List Int} {s : Nat} {a b : Int} {f : Nat → Nat}
theorem needW_ok (V : VPoll vs s a b) (ha : 1 ≤ a) (h15 : ∀ i < vs.length, f i ≤ 15) : Need vs a b f (needW vs a b f) ∧ ∀ S, ∃ J, F_needed_by [pollD vs s a b, tupI (tabF f vs.length)] S = .ok (tupI (needW vs a b f)) (S ++ J) := by
  obtain ⟨w, hw, hr⟩ := needed_ok V ha h15
  have hx : ∃ w, Need vs a b f w := ⟨w, hw⟩
  have e : needW vs a b f = w := by
    unfold needW
    rw [dif_pos hx]
    exact (Classical.choose_spec hx).one hw
  rw [e]
  exact ⟨hw, hr⟩
theorem need_nn (V : VPoll vs s a b) (ha : 1 ≤ a) (h15 : ∀ i < vs.length, f i ≤ 15) : 0 ≤ need vs a b f := by
  obtain ⟨hw, _⟩ := needW_ok V ha h15
  have := (sum_getD_le (ws := vs) (us := needW vs a b f) hw.st.len.symm hw.st.le).1
  unfold need
  omega
theorem need_bd (V : VPoll vs s a b) (ha : 1 ≤ a) (h15 : ∀ i < vs.length, f i ≤ 15) : need vs a b f ≤ 864000 := by
  have b0 : 0 ≤ b := by have := V.b0; omega
  obtain ⟨hw, _⟩ := needW_ok V ha h15
  have h0 := (sum_getD_le (ws := needW vs a b f) (us := wideL vs a b f) (by rw [hw.st.len]; simp) fun i hi => by
    rw [hw.st.len] at hi
    exact hw.least _ (wide_st V ha) i hi).1
  have h1 := (sum_getD_le (ws := wideL vs a b f) (us := List.replicate vs.length 144000) (by simp) fun i hi => by
    have hi : i < vs.length := by simpa using hi
    rw [wideL_get hi, List.getD_eq_getElem?_getD, List.getElem?_replicate, if_pos hi]
    exact (wide_bd ha V.a1 b0 V.b1 (lo_getD V) (hi_getD V) h15 hi).2).1
  have h2 : (List.replicate vs.length (144000 : Int)).sum = vs.length * 144000 := rep_sum _ _
  have h3 := (sum_getD_le (ws := List.replicate vs.length 0) (us := vs) (by simp) fun i hi => by
    have hi : i < vs.length := by simpa using hi
    rw [List.getD_eq_getElem?_getD, List.getElem?_replicate, if_pos hi]
    exact lo_getD V i hi).1
  have h4 : (List.replicate vs.length (0 : Int)).sum = 0 := by rw [rep_sum, Int.mul_zero]
  have := V.v.l1
  unfold need
  omega
/-- votes by which the table is a result are no fewer -/
theorem need_le (V : VPoll vs s a b) (ha : 1 ≤ a) (h15 : ∀ i < vs.length, f i ≤ 15) {u : List Int} (U : Stab vs u a b f) : need vs a b f ≤ u.sum - vs.sum := by
  obtain ⟨hw, _⟩ := needW_ok V ha h15
  have := (sum_getD_le (ws := needW vs a b f) (us := u) (by rw [hw.st.len, U.len]) fun i hi => by
    rw [hw.st.len] at hi
    exact hw.least _ U i hi).1
  unfold need
  omega
theorem more_by_ok (V : VPoll vs s a b) (ha : 1 ≤ a) (h15 : ∀ i < vs.length, f i ≤ 15) (S : Sto) : ∃ J w, w.sum = need vs a b f ∧ F_more_by [pollD vs s a b, tupI (tabF f vs.length)] S = .ok (tupI w) (S ++ J) := by
  obtain ⟨hw, hr⟩ := needW_ok V ha h15
  obtain ⟨J, e⟩ := hr S
  have l1 := V.v.l1
  have wl := hw.st.len
  refine ⟨J, (List.range (needW vs a b f).length).map fun i => (needW vs a b f).getD i 0 - vs.getD i 0, diff_sum _ _ wl, ?_⟩
  have he : entry 4 [pollD vs s a b, tupI (tabF f vs.length)] = [some (pollD vs s a b), some (tupI (tabF f vs.length)), none, none] := rfl
  have zl : (zipL ((needW vs a b f).map D.int) (vs.map D.int)).length = (needW vs a b f).length := by
    rw [zip_len _ _ (by rw [List.length_map, List.length_map, wl]), List.length_map]
  have lc := lc_map (g := g_more_by_1) (t := t_more_by_1) (e := e_more_by_1) (env0 := [some (pollD vs s a b), some (tupI (tabF f vs.length)), none, none]) (xs := List.range (needW vs a b f).length) (m := (needW vs a b f).length) (ds := zipL ((needW vs a b f).map D.int) (vs.map D.int)) (S := S ++ J)
    (fun i _ => .tup [.int ((needW vs a b f).getD i 0), .int (vs.getD i 0)]) (fun _ => true) (fun i => .int ((needW vs a b f).getD i 0 - vs.getD i 0)) (by simp) (by simp [zl]) (fun i x hx => by
      have hi : i < (needW vs a b f).length := by
        have := (List.getElem?_eq_some_iff.mp hx).1
        simpa using this
      cases hz : (zipL ((needW vs a b f).map D.int) (vs.map D.int))[i]? with
      | none =>
        have := List.getElem?_eq_none_iff.mp hz
        omega
      | some d => rw [(zip_at hz).2]) (by rw [List.length_range]; show _ ≤ 16777216; omega) fun i x hx => ⟨_, by
      simp only [gTpn_tup, List.length_cons, List.length_nil, Nat.zero_add, Nat.reduceAdd, if_true, gsCons_cons, gNm_ap, seq_nx, gsNil_nil, List.set]
      rfl, rfl, fun _ => by
      have hxi : x = i := by
        have hi : i < (needW vs a b f).length := by
          have := (List.getElem?_eq_some_iff.mp hx).1
          simpa using this
        rw [List.getElem?_range hi] at hx
        exact (Option.some.inj hx).symm
      subst hxi
      simp only [cBin_ap, cVar_ap, List.getElem?_cons_succ, List.getElem?_cons_zero, bind_ok, oSub_int]⟩
  rw [List.filter_eq_self.mpr fun _ _ => rfl] at lc
  have zs : (cCons (cApp F_needed_by (cCons (cVar 0) (cCons (cVar 1) cNil))) (cCons (cUn (fldD ["Poll"] "votes") (cVar 0)) cNil)) [some (pollD vs s a b), some (tupI (tabF f vs.length)), none, none] S = .ok [tupI (needW vs a b f), tupI vs] (S ++ J) := by
    simp only [cCons_ap, cApp_ap, cUn_ap, cVar_ap, cNil_ap, List.getElem?_cons_succ, List.getElem?_cons_zero, bind_ok, e, fld_votes]
  have hz : iZipD (cCons (cApp F_needed_by (cCons (cVar 0) (cCons (cVar 1) cNil))) (cCons (cUn (fldD ["Poll"] "votes") (cVar 0)) cNil)) [some (pollD vs s a b), some (tupI (tabF f vs.length)), none, none] S = .ok (.fix (zipL ((needW vs a b f).map D.int) (vs.map D.int))) (S ++ J) := by
    unfold iZipD
    rw [zs]
    rfl
  have tp : ∀ S, fTuple [.lst ((List.range (needW vs a b f).length).map fun i => .int ((needW vs a b f).getD i 0 - vs.getD i 0))] S = .ok (tupI ((List.range (needW vs a b f).length).map fun i => (needW vs a b f).getD i 0 - vs.getD i 0)) S := fun S => by
    rw [tupI, List.map_map]
    rfl
  simp only [F_more_by, runF_ap, List.length_cons, List.length_nil, c_more_by, he, sRet_ap, cApp_ap, cCons_ap, cNil_ap, cVal_ap, cLc_ap, hz, bind_ok, fix_n, zl, wipeD, List.set, lc, tp, th_ok, if_true]
def forD (x : Int) : D := if x ≤ 99999 then .int x else .non
theorem votes_for_by_ok (V : VPoll vs s a b) (ha : 1 ≤ a) (h15 : ∀ i < vs.length, f i ≤ 15) (S : Sto) : ∃ J, F_votes_for_by [pollD vs s a b, tupI (tabF f vs.length)] S = .ok (forD (need vs a b f)) (S ++ J) := by
  obtain ⟨J, w, hw, e⟩ := more_by_ok V ha h15 S
  refine ⟨J, ?_⟩
  have sm := fun S => sum_tup S w
  rw [hw] at sm
  have he : entry 3 [pollD vs s a b, tupI (tabF f vs.length)] = [some (pollD vs s a b), some (tupI (tabF f vs.length)), none] := rfl
  simp only [F_votes_for_by, runF_ap, List.length_cons, List.length_nil, c_votes_for_by, he, sSeq_ap, sSet_ap, cApp_ap, cCons_ap, cVar_ap, cNil_ap, List.getElem?_cons_succ, List.getElem?_cons_zero, bind_ok, e, sm, th_ok, List.set, seq_nx, sRet_ap, cIf_ap, cTst_ap, cBin_ap, cK_ap, oLe_int, asB_bl]
  unfold forD
  by_cases z : need vs a b f ≤ 99999
  · simp only [decide_eq_true z, if_true, if_pos z, List.getElem?_cons_succ, List.getElem?_cons_zero, bind_ok, th_ok]
  · simp only [decide_eq_false z, Bool.false_eq_true, if_false, if_neg z, bind_ok, th_ok, if_true]
theorem all_bls : ∀ (n : Nat) (S : Sto), fAll [.lst (List.replicate n (.bl true))] S = .ok (.bl true) S := fun n S => by
  have h : blsOf (List.replicate n (D.bl true)) = some (List.replicate n true) := by
    induction n with
    | zero => rfl
    | succ n ih => simp [List.replicate_succ, blsOf, ih]
  simp [fAll, h]
/-- a table of the poll -/
structure TabOf (vs : List Int) (s : Nat) (f : Nat → Nat) : Prop where
  sum : fsum vs.length f = s
theorem tabF_sum : ∀ n, (tabF f n).sum = (fsum n f : Nat)
  | 0 => rfl
  | n + 1 => by
    have := tabF_sum n
    unfold tabF at this ⊢
    rw [List.range_succ, List.map_append, List.sum_append, this, fsum_succ]
    simp
theorem fsum_ge {n i : Nat} (hi : i < n) : f i ≤ fsum n f := by
  induction n with
  | zero => omega
  | succ n ih =>
    rw [fsum_succ]
    by_cases z : i = n
    · subst z
      omega
    · have := ih (by omega)
      omega
theorem is_table_ok (V : VPoll vs s a b) (hs : fsum vs.length f = s) (S : Sto) : F_is_table [pollD vs s a b, tupI (tabF f vs.length)] S = .ok (.bl true) S := by
  have l1 := V.v.l1
  have tl : (tabF f vs.length).length = vs.length := tabF_len
  have it : ∀ S, fIsi [tupI (tabF f vs.length), .ty "tuple"] S = .ok (.bl true) S := fun S => isi_tup S _
  have ln : ∀ S, fLen [tupI (tabF f vs.length)] S = .ok (.int (vs.length : Nat)) S := fun S => by simp [tupI, tl]
  have lv : ∀ S, fLen [tupI vs] S = .ok (.int (vs.length : Nat)) S := fun S => by simp [tupI]
  have tof : ∀ S, F_is_tuple_of [tupI (tabF f vs.length), .int (vs.length : Nat)] S = .ok (.bl true) S := fun S => by
    have he : entry 2 [tupI (tabF f vs.length), .int (vs.length : Nat)] = [some (tupI (tabF f vs.length)), some (.int (vs.length : Nat))] := rfl
    simp only [F_is_tuple_of, runF_ap, List.length_cons, List.length_nil, c_is_tuple_of, he, sRet_ap, cAnd_ap, cApp_ap, cCons_ap, cVar_ap, cK_ap, cNil_ap, List.getElem?_cons_succ, List.getElem?_cons_zero, bind_ok, it, asB_bl, if_true, cBin_ap, ln, oEq_int, decide_true, th_ok]
  have he : entry 3 [pollD vs s a b, tupI (tabF f vs.length)] = [some (pollD vs s a b), some (tupI (tabF f vs.length)), none] := rfl
  have lc := lc_map (g := g_is_table_1) (t := t_is_table_1) (e := e_is_table_1) (env0 := [some (pollD vs s a b), some (tupI (tabF f vs.length)), none]) (xs := tabF f vs.length) (m := (tabF f vs.length).length) (ds := (tabF f vs.length).map D.int) (S := S)
    (fun _ x => .int x) (fun _ => true) (fun _ => .bl true) rfl (by simp) (fun i x hx => by rw [List.getElem?_map, hx]; rfl) (by rw [tl]; show _ ≤ 16777216; omega) fun i x hx => ⟨_, rfl, rfl, fun _ => by
      have hx' : ∃ q < vs.length, x = ((f q : Nat) : Int) := by
        obtain ⟨q, hq, e⟩ := List.mem_map.mp (List.mem_of_getElem? hx)
        exact ⟨q, List.mem_range.mp hq, e.symm⟩
      obtain ⟨q, hq, rfl⟩ := hx'
      have := fsum_ge (f := f) hq
      have c1 : (decide ((0 : Int) ≤ ((f q : Nat) : Int)) && decide (((f q : Nat) : Int) ≤ ((s : Nat) : Int))) = true := by
        rw [decide_eq_true (by omega), decide_eq_true (by omega)]
        rfl
      have bt := fun S => between_i (i := ((f q : Nat) : Int)) (a := 0) (b := ((s : Nat) : Int)) (S := S)
      simp only [c1] at bt
      simp only [cApp_ap, cCons_ap, cUn_ap, cVar_ap, cK_ap, cNil_ap, List.set, List.getElem?_cons_succ, List.getElem?_cons_zero, bind_ok, fld_seats, bt]⟩
  rw [List.filter_eq_self.mpr fun _ _ => rfl] at lc
  have hm : (tabF f vs.length).map (fun _ => D.bl true) = List.replicate vs.length (.bl true) := by
    rw [← tl, List.map_const', tl, tl]
  rw [hm] at lc
  have sm := fun S => sum_tup S (tabF f vs.length)
  rw [tabF_sum, hs] at sm
  have src : ∀ S, srcOf (tupI (tabF f vs.length)) S = .ok (.fix ((tabF f vs.length).map D.int)) S := fun _ => rfl
  have al := fun S => all_bls vs.length S
  have ml : ((tabF f vs.length).map D.int).length = (tabF f vs.length).length := by simp
  simp only [F_is_table, runF_ap, List.length_cons, List.length_nil, c_is_table, he, sSeq_ap, sIf_ap, cOrT_ap, cNotT_ap, cTst_ap, cApp_ap, cCons_ap, cUn_ap, cVar_ap, cNil_ap, List.getElem?_cons_succ, List.getElem?_cons_zero, bind_ok, fld_votes, lv, tof, asB_bl, Bool.not_true, Bool.false_eq_true, if_false, cVal_ap, cLc_ap, iSeq_ap, src, fix_n, ml, wipeD, List.set, lc, al, th_ok, sNil_ap, seq_nx, sRet_ap, cBin_ap, sm, fld_seats, oEq_int, decide_true, if_true]
theorem check_table_ok (V : VPoll vs s a b) (hs : fsum vs.length f = s) (S : Sto) : F_check_table [pollD vs s a b, tupI (tabF f vs.length)] S = .ok .non S := by
  have it := fun S => is_table_ok V hs S
  have he : entry 2 [pollD vs s a b, tupI (tabF f vs.length)] = [some (pollD vs s a b), some (tupI (tabF f vs.length))] := rfl
  simp only [F_check_table, runF_ap, List.length_cons, List.length_nil, c_check_table, he, sIf_ap, cNotT_ap, cTst_ap, cApp_ap, cCons_ap, cVar_ap, cNil_ap, List.getElem?_cons_succ, List.getElem?_cons_zero, bind_ok, it, asB_bl, Bool.not_true, Bool.false_eq_true, if_false, th_ok, sNil_ap, if_true]
theorem h15_of (V : VPoll vs s a b) (hs : fsum vs.length f = s) : ∀ i < vs.length, f i ≤ 15 := fun i hi => by
  have := fsum_ge (f := f) hi
  have := V.s1
  omega
theorem votes_for_ok (V : VPoll vs s a b) (ha : 1 ≤ a) (hs : fsum vs.length f = s) (S : Sto) : ∃ J, F_votes_for [pollD vs s a b, tupI (tabF f vs.length)] S = .ok (forD (need vs a b f)) (S ++ J) := by
  obtain ⟨J, e⟩ := votes_for_by_ok V ha (h15_of V hs) S
  have ca := fun S => check_asked_ok (vs := vs) (s := s) (b := b) ha S
  have ct := fun S => check_table_ok V hs S
  have he : entry 2 [pollD vs s a b, tupI (tabF f vs.length)] = [some (pollD vs s a b), some (tupI (tabF f vs.length))] := rfl
  refine ⟨J, ?_⟩
  simp only [F_votes_for, runF_ap, List.length_cons, List.length_nil, c_votes_for, he, sSeq_ap, sDrop_ap, cApp_ap, cCons_ap, cVar_ap, cNil_ap, List.getElem?_cons_succ, List.getElem?_cons_zero, bind_ok, ca, ct, th_ok, seq_nx, sRet_ap, e, if_true]
end
end Q
end

section
set_option linter.all false
set_option maxRecDepth 100000
set_option maxHeartbeats 4000000
set_option autoImplicit false
/-! tables and the ways in which votes may fall (laws k44, k45, k53) -/
namespace Q
open DL M
section
variable {vs : List Int} {s : Nat} {a b : Int}
structure IsT (vs : List Int) (s : Nat) (t : List Int) : Prop where
  len : t.length = vs.length
  nn : ∀ x ∈ t, 0 ≤ x
  sum : t.sum = s
noncomputable def needT (vs : List Int) (a b : Int) (t : List Int) : Int := need vs a b (tfn t)
theorem IsT.tab {t : List Int} (h : IsT vs s t) : t = tabF (tfn t) vs.length ∧ fsum vs.length (tfn t) = s := by
  have e : t = tabF (tfn t) vs.length := by
    refine eq_getD (by rw [h.len, tabF_len]) fun i hi => ?_
    rw [tabF_get (by rw [← h.len]; exact hi)]
    have := h.nn _ (getD_mem hi)
    unfold tfn
    omega
  refine ⟨e, ?_⟩
  have h1 := tabF_sum (f := tfn t) vs.length
  rw [← e, h.sum] at h1
  omega
theorem isT_ways (hn : 1 ≤ vs.length) {t : List Int} : t ∈ waysL s vs.length ↔ IsT vs s t := by
  rw [waysL_iff (by omega) hn]
  exact ⟨fun ⟨h1, h2, h3⟩ => ⟨h1, h2, h3⟩, fun h => ⟨h.len, h.nn, h.sum⟩⟩
/-- votes with so many more -/
def addW (vs way : List Int) : List Int := (List.range vs.length).map fun i => vs.getD i 0 + way.getD i 0
theorem addW_len (way : List Int) : (addW vs way).length = vs.length := by simp [addW]
theorem addW_get (way : List Int) {i : Nat} (hi : i < vs.length) : (addW vs way).getD i 0 = vs.getD i 0 + way.getD i 0 := by
  unfold addW
  rw [List.getD_eq_getElem?_getD, List.getElem?_map, List.getElem?_range hi]
  rfl
theorem plus_sum : ∀ (us ws : List Int), us.length = ws.length → ((List.range us.length).map fun i => us.getD i 0 + ws.getD i 0).sum = us.sum + ws.sum
  | [], [], _ => by simp
  | [], _ :: _, h => by simp at h
  | _ :: _, [], h => by simp at h
  | u :: us, w :: ws, h => by
    have ih := plus_sum us ws (by simpa using h)
    rw [List.length_cons, List.range_succ_eq_map, List.map_cons, List.map_map, List.sum_cons, List.sum_cons, List.sum_cons]
    have : ((List.range us.length).map ((fun i => (u :: us).getD i 0 + (w :: ws).getD i 0) ∘ Nat.succ)) = (List.range us.length).map fun i => us.getD i 0 + ws.getD i 0 := List.map_congr_left fun i _ => rfl
    rw [this, ih]
    show u + w + (us.sum + ws.sum) = _
    omega
theorem sum_nn : ∀ {l : List Int}, (∀ x ∈ l, 0 ≤ x) → 0 ≤ l.sum ∧ ∀ x ∈ l, x ≤ l.sum
  | [], _ => ⟨by simp, by simp⟩
  | x :: l, h => by
    obtain ⟨h1, h2⟩ := sum_nn (l := l) fun y hy => h y (List.mem_cons_of_mem _ hy)
    have h3 := h x List.mem_cons_self
    rw [List.sum_cons]
    refine ⟨by omega, fun y hy => ?_⟩
    rcases List.mem_cons.mp hy with rfl | hy
    · omega
    · have := h2 y hy
      omega
/-- votes so wide still are votes of results -/
theorem wide_res (V : VPoll vs s a b) (ha : 1 ≤ a) {us : List Int} (hl : us.length = vs.length) (hle : ∀ i < vs.length, vs.getD i 0 ≤ us.getD i 0) (hi : ∀ i < vs.length, us.getD i 0 ≤ 1000000) : VRes us s a b := by
  obtain ⟨v, hv, v0⟩ := V.v.pos
  obtain ⟨j, hj, rfl⟩ := List.mem_iff_getElem.mp hv
  have e : vs.getD j 0 = vs[j] := by rw [List.getD_eq_getElem?_getD, List.getElem?_eq_getElem hj]; rfl
  have key : ∀ u ∈ us, 0 ≤ u ∧ u ≤ 1000000 := fun u hu => by
    obtain ⟨q, hq, rfl⟩ := List.mem_iff_getElem.mp hu
    have e2 : us.getD q 0 = us[q] := by rw [List.getD_eq_getElem?_getD, List.getElem?_eq_getElem hq]; rfl
    have h1 := hle q (by omega)
    have h2 := hi q (by omega)
    have h3 := lo_getD V q (by omega)
    omega
  refine ⟨by rw [hl]; exact V.v.l0, by rw [hl]; exact V.v.l1, fun u hu => (key u hu).1, fun u hu => by have := (key u hu).2; omega, ⟨us.getD j 0, getD_mem (by omega), by have := hle j hj; omega⟩, V.s0, by have := V.s1; omega, V.a0, V.a1, V.b0, V.b1, .inl (by omega)⟩
theorem way_le (way : List Int) (hw : way.length = vs.length) (h0 : ∀ x ∈ way, 0 ≤ x) : ∀ i < vs.length, 0 ≤ way.getD i 0 ∧ way.getD i 0 ≤ way.sum := fun i hi => by
  have hm := getD_mem (vs := way) (p := i) (by omega)
  exact ⟨h0 _ hm, (sum_nn h0).2 _ hm⟩
theorem add_res (V : VPoll vs s a b) (ha : 1 ≤ a) {way : List Int} (hw : way.length = vs.length) (h0 : ∀ x ∈ way, 0 ≤ x) (hm : way.sum ≤ 1000) : VRes (addW vs way) s a b := by
  refine wide_res V ha (addW_len way) (fun i hi => ?_) fun i hi => ?_
  · rw [addW_get way hi]
    have := (way_le way hw h0 i hi).1
    omega
  · rw [addW_get way hi]
    have := (way_le way hw h0 i hi).2
    have := hi_getD V i hi
    omega
theorem add_sum {way : List Int} (hw : way.length = vs.length) : (addW vs way).sum = vs.sum + way.sum := plus_sum vs way hw.symm
/-- a result with some votes more is a table that needs no more -/
theorem reach_need (V : VPoll vs s a b) (ha : 1 ≤ a) {way t : List Int} (hw : way.length = vs.length) (h0 : ∀ x ∈ way, 0 ≤ x) (hm : way.sum ≤ 1000) (ht : t ∈ resT (addW vs way) s a b) : IsT vs s t ∧ needT vs a b t ≤ way.sum := by
  have b0 : 0 ≤ b := by have := V.b0; omega
  have W := add_res V ha hw h0 hm
  obtain ⟨F, e⟩ := resF_iff.mp ((W.resT.2.1 t).mp ht)
  have e1 : t = tabF (tfn t) vs.length := by
    have e2 := e
    rw [addW_len] at e2
    exact e2
  have hs : fsum vs.length (tfn t) = s := by
    have := F.sum
    rwa [addW_len] at this
  have T : IsT vs s t := by
    refine ⟨by rw [e1, tabF_len], fun x hx => ?_, by rw [e1, tabF_sum, hs]⟩
    rw [e1] at hx
    obtain ⟨q, _, rfl⟩ := List.mem_map.mp hx
    omega
  refine ⟨T, ?_⟩
  have U : Stab vs (addW vs way) a b (tfn t) := F.stab ha b0 (addW_len way) (fun i hi => by
    rw [addW_get way hi]
    have := (way_le way hw h0 i hi).1
    have := lo_getD V i hi
    omega) fun i hi => by
    rw [addW_get way hi]
    have := (way_le way hw h0 i hi).1
    omega
  have := need_le V ha (h15_of V hs) U
  rw [add_sum hw] at this
  unfold needT
  omega
/-- a table is a result with as many votes more as it needs -/
theorem need_reach (V : VPoll vs s a b) (ha : 1 ≤ a) {t : List Int} (T : IsT vs s t) : ∃ way : List Int, way.length = vs.length ∧ (∀ x ∈ way, 0 ≤ x) ∧ way.sum = needT vs a b t ∧ t ∈ resT (addW vs way) s a b := by
  have b0 : 0 ≤ b := by have := V.b0; omega
  obtain ⟨e, hs⟩ := T.tab
  have h15 := h15_of V hs
  obtain ⟨N, _⟩ := needW_ok V ha h15
  have hl := N.st.len
  have hadd : addW vs ((List.range vs.length).map fun i => (needW vs a b (tfn t)).getD i 0 - vs.getD i 0) = needW vs a b (tfn t) := by
    refine eq_getD (by rw [addW_len, hl]) fun i hi => ?_
    rw [addW_len] at hi
    have hg : ((List.range vs.length).map fun i => (needW vs a b (tfn t)).getD i 0 - vs.getD i 0).getD i 0 = (needW vs a b (tfn t)).getD i 0 - vs.getD i 0 := by
      rw [List.getD_eq_getElem?_getD, List.getElem?_map, List.getElem?_range hi]
      rfl
    rw [addW_get _ hi, hg]
    omega
  refine ⟨(List.range vs.length).map fun i => (needW vs a b (tfn t)).getD i 0 - vs.getD i 0, by simp, fun x hx => ?_, ?_, ?_⟩
  · obtain ⟨i, hi, rfl⟩ := List.mem_map.mp hx
    have := N.st.le i (List.mem_range.mp hi)
    omega
  · have := diff_sum (needW vs a b (tfn t)) vs hl
    rw [hl] at this
    exact this
  · rw [hadd]
    have W : VRes (needW vs a b (tfn t)) s a b := wide_res V ha hl N.st.le fun i hi => by
      have h1 := N.least _ (wide_st V ha) i hi
      rw [wideL_get hi] at h1
      have := (wide_bd ha V.a1 b0 V.b1 (lo_getD V) (hi_getD V) h15 hi).2
      omega
    refine (W.resT.2.1 t).mpr (resF_iff.mpr ⟨N.st.res ha b0 V.v.lo V.v.pos hs, ?_⟩)
    rw [hl]
    exact e
theorem needT_nn (V : VPoll vs s a b) (ha : 1 ≤ a) {t : List Int} (T : IsT vs s t) : 0 ≤ needT vs a b t := need_nn V ha (h15_of V T.tab.2)
theorem votesT_ok (V : VPoll vs s a b) (ha : 1 ≤ a) {t : List Int} (T : IsT vs s t) (S : Sto) : ∃ J, F_votes_for [pollD vs s a b, tupI t] S = .ok (forD (needT vs a b t)) (S ++ J) := by
  obtain ⟨e, hs⟩ := T.tab
  obtain ⟨J, h⟩ := votes_for_ok V ha hs S
  refine ⟨J, ?_⟩
  rw [← e] at h
  exact h
end
end Q
end

section
set_option linter.all false
set_option maxRecDepth 100000
set_option maxHeartbeats 4000000
set_option autoImplicit false
/-! all tuples of so many together, as the law goes through them (printed by mksw.py) -/
namespace Q
open DL M
def wpD (c : WP) : D := .tup [tupI c.1, .int c.2]
section
variable {many : Int} {n : Nat}
theorem cat_one (c : List Int) (hc : c.length ≤ 100) (x : Int) (S : Sto) : oAddG (tupI c) (.tup [.int x]) S = .ok (tupI (c ++ [x])) S := by
  show (if (c.map D.int).length + 1 ≤ LIM then _ else _) = _
  rw [if_pos (by rw [List.length_map]; show _ ≤ 16777216; omega), tupI, List.map_append]
  rfl
theorem ways_more (c : WP) (hc : c.1.length ≤ 100) (h0 : 0 ≤ c.2) (h1 : c.2 ≤ 15) (S : Sto) (x0 x1 x2 x3 x4 : Option D) :
    lcN (.fix (rngL 0 (c.2 + 1).toNat)) g__law_ways_1 t__law_ways_1 e__law_ways_1 [x0, x1, x2, x3, x4, some (tupI c.1), some (.int c.2), none] (c.2 + 1).toNat 0 [] S = .ok ((wTurn c).map wpD) S := by
  have := lc_rng (g := g__law_ways_1) (t := t__law_ways_1) (e := e__law_ways_1) (env0 := [x0, x1, x2, x3, x4, some (tupI c.1), some (.int c.2), none]) (n := (c.2 + 1).toNat) (lo := 0) (S := S)
    (fun i => wpD (c.1 ++ [((i : Nat) : Int)], c.2 - ((i : Nat) : Int))) (by show _ ≤ 16777216; omega) fun i hi => ⟨_, rfl, rfl, by
      have l1 : (0 : Nat) + 1 ≤ LIM := by decide
      have l2 : (0 : Nat) + 1 + 1 ≤ LIM := by decide
      have ad := fun S => cat_one c.1 hc ((i : Nat) : Int) S
      simp only [cBin_ap, cTup_ap, cCons_ap, cVar_ap, cNil_ap, List.set, List.getElem?_cons_succ, List.getElem?_cons_zero, bind_ok, List.length_cons, List.length_nil, if_pos l1, if_pos l2, Int.zero_add, ad, oSub_int, wpD]⟩
  rw [this]
  unfold wTurn
  rw [List.map_map]
  rfl
theorem ways_ok (h0 : 0 ≤ many) (h15 : many ≤ 15) (hn : 1 ≤ n) (h6 : n ≤ 6) (S : Sto) : ∃ J, F__law_ways [.int many, .int (n : Nat)] S = .ok (.lst ((waysL many n).map tupI)) (S ++ J) := by
  have he : entry 8 [.int many, .int (n : Nat)] = [some (.int many), some (.int (n : Nat)), none, none, none, none, none, none] := rfl
  have l2 : (0 : Nat) + 1 + 1 ≤ LIM := by decide
  have l1 : (0 : Nat) + 1 ≤ LIM := by decide
  have lz : (0 : Nat) ≤ LIM := by decide
  have h8 : ∀ r, (s__law_ways_8 [some (.int many), some (.int (n : Nat)), none, none, none, none, none, none] S).seq r = r [some (.int many), some (.int (n : Nat)), some (.lst ((wIter many 0).map wpD)), none, none, none, none, none] S := fun r => by
    simp only [sSet_ap, cVal_ap, cLst_ap, cTup_ap, cCons_ap, cVar_ap, cNil_ap, List.getElem?_cons_succ, List.getElem?_cons_zero, bind_ok, List.length_cons, List.length_nil, if_pos lz, if_pos l2, if_pos l1, th_ok, List.set, seq_nx]
    rfl
  have loop := for_all (items := rngL 0 (n - 1)) (g := g__law_ways_6) (b := b__law_ways_6) (env := [some (.int many), some (.int (n : Nat)), some (.lst ((wIter many 0).map wpD)), none, none, none, none, none]) (S := S)
    (fun i env S' => ∃ J d x3 x4 x5 x6, S' = S ++ J ∧ env = [some (.int many), some (.int (n : Nat)), some d, x3, x4, x5, x6, none] ∧ LstD S' d ((wIter many i).map wpD)) ⟨[], _, none, none, none, none, by simp, rfl, .inl rfl⟩ (by
      rintro i d env S' hd ⟨J, d2, x3, x4, x5, x6, rfl, rfl, hL⟩
      have hi : i < n - 1 := by
        have := (List.getElem?_eq_some_iff.mp hd).1
        rwa [rngL_len] at this
      have hlen : (wIter many i).length ≤ 16 ^ i := wIter_len h0 h15 i
      have hp : 16 ^ (i + 1) ≤ 16 ^ 5 := Nat.pow_le_pow_right (by omega) (by omega)
      have hlen2 : ∀ t, (wStep ((wIter many i).take t)).length ≤ 16 ^ 5 := fun t => by
        have h1 := wStep_len (F := (wIter many i).take t) h0 fun c hc => ⟨(wIter_bd h0 (List.mem_of_mem_take hc)).1, (wIter_bd (j := i) h0 (List.mem_of_mem_take hc)).2.1⟩
        have h2 : ((wIter many i).take t).length ≤ 16 ^ i := by rw [List.length_take]; omega
        have h3 := Nat.mul_le_mul h2 (show (many + 1).toNat ≤ 16 by omega)
        rw [Nat.pow_succ] at hp
        omega
      obtain ⟨src, hs, env', S', hf, hP⟩ := for_lst (g := g__law_ways_2) (b := b__law_ways_2) (env := [some (.int many), some (.int (n : Nat)), some d2, some d, some (.cel (S ++ J).length), x5, x6, none]) (S1 := (S ++ J) ++ [.lst []]) hL
        (fun t env S' => S' = (S ++ J) ++ [.lst ((wStep ((wIter many i).take t)).map wpD)] ∧ ∃ y5 y6, env = [some (.int many), some (.int (n : Nat)), some d2, some d, some (.cel (S ++ J).length), y5, y6, none]) ⟨rfl, x5, x6, rfl⟩ (fun t env S' ⟨e, _⟩ => ⟨_, e⟩) (by
          rintro t d3 env S' hd3 ⟨rfl, y5, y6, rfl⟩
          rw [List.getElem?_map] at hd3
          obtain ⟨c, hc, rfl⟩ := Option.map_eq_some_iff.mp hd3
          have hcm := List.mem_of_getElem? hc
          obtain ⟨c0, c1, c2⟩ := wIter_bd h0 hcm
          have ht : (wIter many i).take (t + 1) = (wIter many i).take t ++ [c] := by rw [List.take_add_one, hc]; rfl
          have hA : wStep ((wIter many i).take (t + 1)) = wStep ((wIter many i).take t) ++ wTurn c := by
            rw [ht]
            unfold wStep
            rw [List.flatMap_append, List.flatMap_cons, List.flatMap_nil, List.append_nil]
          have hl2 := hlen2 (t + 1)
          rw [hA, List.length_append] at hl2
          have lo := fun S => ways_more c (by omega) c0 (by omega) S (some (.int many)) (some (.int (n : Nat))) (some d2) (some d) (some (.cel (List.length (S ++ J))))
          have rg := fun S => rng1F_of S (z := c.2 + 1) (c.2 + 1).toNat (by omega) (by omega)
          have lo2 := ways_more c (by omega) c0 (by omega) ((S ++ J) ++ [.lst ((wStep ((wIter many i).take t)).map wpD)]) (some (.int many)) (some (.int (n : Nat))) (some d2) (some d) (some (.cel (S ++ J).length))
          have ex := ext_last (S ++ J) ((wStep ((wIter many i).take t)).map wpD) ((wTurn c).map wpD) (by rw [List.length_map, List.length_map]; show _ ≤ 16777216; omega)
          rw [hA, List.map_append]
          refine ⟨_, _, .inl ?_, rfl, some (tupI c.1), some (.int c.2), rfl⟩
          have hwc : wpD c = .tup [tupI c.1, .int c.2] := rfl
          simp only [turnOf, hwc, gTpn_tup, List.length_cons, List.length_nil, Nat.zero_add, Nat.reduceAdd, if_true, gsCons_cons, gNm_ap, seq_nx, gsNil_nil, tg_nx, List.set, sDrop_ap, cMeth_ap, cVar_ap, List.getElem?_cons_succ, List.getElem?_cons_zero, bind_ok, listOf_last, Option.isSome_some, cCons_ap, cVal_ap, cLc_ap, iRng1D_ap, cBin_ap, cK_ap, cNil_ap, oAddG_int, rg, fix_n, rngL_length, wipeD, lo2, ex, th_ok])
      obtain ⟨rfl, y5, y6, rfl⟩ := hP
      rw [List.length_map, List.take_length] at *
      refine ⟨_, (S ++ J) ++ [.lst ((wStep (wIter many i)).map wpD)], .inl ?_, J ++ [.lst ((wStep (wIter many i)).map wpD)], .cel (S ++ J).length, some d, some (.cel (S ++ J).length), y5, y6, by rw [List.append_assoc], rfl, .inr ⟨_, rfl, get_last _ _⟩⟩
      have hb : b__law_ways_6 [some (.int many), some (.int (n : Nat)), some d2, some d, x4, x5, x6, none] (S ++ J) = .nx [some (.int many), some (.int (n : Nat)), some (.cel (S ++ J).length), some d, some (.cel (S ++ J).length), y5, y6, none] ((S ++ J) ++ [.lst ((wStep (wIter many i)).map wpD)]) := by
        unfold b__law_ways_6
        simp only [sSeq_ap, sSet_ap, cBox_ap, cLst_ap, cNil_ap, bind_ok, List.length_nil, if_pos lz, th_ok, List.set, seq_nx, sFor_ap, iSeq_ap, cVar_ap, List.getElem?_cons_succ, List.getElem?_cons_zero, bind_ok, hs, hf]
      simp only [turnOf, gNm_ap, tg_nx, seq_nx, List.set, hb])
  obtain ⟨_, _, e, J, d, x3, x4, x5, x6, rfl, rfl, hL⟩ := loop
  rw [rngL_len] at e hL
  have rg := fun S => rng1F_of S (z := (((n : Nat) : Int) - 1)) (n - 1) (by omega) (by omega)
  have h9 : ∀ r, (s__law_ways_9 [some (.int many), some (.int (n : Nat)), some (.lst ((wIter many 0).map wpD)), none, none, none, none, none] S).seq r = r [some (.int many), some (.int (n : Nat)), some d, x3, x4, x5, x6, none] (S ++ J) := fun r => by
    simp only [sFor_ap, iRng1D_ap, cCons_ap, cBin_ap, cVar_ap, cK_ap, cNil_ap, List.getElem?_cons_succ, List.getElem?_cons_zero, bind_ok, oSub_int, rg, th_ok, fix_n, rngL_length, e, seq_nx]
  have hl5 : (wIter many (n - 1)).length ≤ 16 ^ 5 := Nat.le_trans (wIter_len h0 h15 _) (Nat.pow_le_pow_right (by omega) (by omega))
  obtain ⟨src, hs, hlc⟩ := lc_lst (g := g__law_ways_7) (t := t__law_ways_7) (e := e__law_ways_7) (env0 := [some (.int many), some (.int (n : Nat)), some d, x3, x4, none, none, none]) (xs := wIter many (n - 1)) wpD (fun c => tupI (c.1 ++ [c.2])) hL (by show _ ≤ 16777216; omega) fun c hc => ⟨_, by
      simp only [wpD, gTpn_tup, List.length_cons, List.length_nil, Nat.zero_add, Nat.reduceAdd, if_true, gsCons_cons, gNm_ap, seq_nx, gsNil_nil, List.set]
      rfl, rfl, by
      have ad := fun S => cat_one c.1 (by have := (wIter_bd h0 hc).2.2; omega) c.2 S
      simp only [cBin_ap, cTup_ap, cCons_ap, cVar_ap, cNil_ap, List.getElem?_cons_succ, List.getElem?_cons_zero, bind_ok, List.length_cons, List.length_nil, if_pos l1, ad]⟩
  refine ⟨J, ?_⟩
  have hb : c__law_ways [some (.int many), some (.int (n : Nat)), none, none, none, none, none, none] S = .ret (.lst ((waysL many n).map tupI)) (S ++ J) := by
    unfold c__law_ways
    rw [sSeq_ap, h8, sSeq_ap, h9]
    have hw : (wIter many (n - 1)).map (fun c => tupI (c.1 ++ [c.2])) = (waysL many n).map tupI := by
      unfold waysL
      rw [List.map_map]
      rfl
    simp only [sRet_ap, cVal_ap, cLc_ap, iSeq_ap, cVar_ap, List.getElem?_cons_succ, List.getElem?_cons_zero, bind_ok, hs, wipeD, List.set, hlc, hw, th_ok]
  simp only [F__law_ways, runF_ap, List.length_cons, List.length_nil, he, hb, if_true]
end
end Q
end

section
set_option linter.all false
set_option maxRecDepth 100000
set_option maxHeartbeats 4000000
set_option autoImplicit false
/-! the law k44: what is due, gathered (printed by mkk1.py) -/
namespace Q
open DL M
section
variable {vs : List Int} {s : Nat} {a b : Int}
theorem DPoll.vpoll {P T Q : Nat} (h : DPoll P T Q vs s a b) (hP : P ≤ 6) (hT : T ≤ 999) (hQ : Q ≤ 15) : VPoll vs s a b :=
  ⟨⟨h.l0, by have := h.l1; omega, h.lo, fun v hv => by have := h.hi v hv; omega, h.pos⟩, h.s0, by have := h.s1; omega, by have := h.r.a1; omega, h.r.a9, h.r.b1, h.r.b9, .inl (by have := h.r.a1; omega)⟩
structure DOk (vs : List Int) (s : Nat) (a b m : Int) (ks : List (List Int)) (ds : List D) : Prop where
  len : ks.length = ds.length
  nd : ks.Nodup
  key : ∀ k ∈ ks, IsT vs s k
  sound : ∀ j d, dAt ks ds j = some d → d = .int (needT vs a b j)
  comp : ∀ j, IsT vs s j → needT vs a b j < m → j ∈ ks
  bd : ∀ k ∈ ks, needT vs a b k ≤ m
theorem DOk.small (V : VPoll vs s a b) {m : Int} {ks : List (List Int)} {ds : List D} (h : DOk vs s a b m ks ds) : ks.length < LIM := by
  have h1 := nodup_le h.nd fun k hk => (isT_ways (s := s) (by have := V.v.l0; omega)).mpr (h.key k hk)
  have h2 : (waysL s vs.length).length ≤ 16 ^ 5 := by
    unfold waysL
    rw [List.length_map]
    exact Nat.le_trans (wIter_len (by omega) (by have := V.s1; omega) _) (Nat.pow_le_pow_right (by omega) (by have := V.v.l1; omega))
  show ks.length < 16777216
  omega
theorem DOk.put {m : Int} {ks : List (List Int)} {ds : List D} (h : DOk vs s a b m ks ds) {t : List Int} (T : IsT vs s t) (ht : needT vs a b t ≤ m) : DOk vs s a b m (putKs ks t) (putDs ks ds t ((dAt ks ds t).getD (.int m))) := by
  refine ⟨put_len _ _ h.len, putKs_nodup h.nd, fun k hk => ?_, fun j d e => ?_, fun j J hj => mem_putKs.mpr (.inl (h.comp j J hj)), fun k hk => (mem_putKs.mp hk).elim (h.bd k) fun z => by rw [z]; exact ht⟩
  · rcases mem_putKs.mp hk with z | z
    · exact h.key k z
    · rw [z]
      exact T
  · rw [dAt_put j h.len] at e
    by_cases z : j = t
    · rw [if_pos z] at e
      cases e
      subst z
      cases hd : dAt ks ds j with
      | some d => exact h.sound j d hd
      | none =>
        have : ¬ needT vs a b j < m := fun y => by
          obtain ⟨d, hd'⟩ := (dAt_key h.len).mp (h.comp j T y)
          rw [hd] at hd'
          cases hd'
        have : needT vs a b j = m := by omega
        rw [this]
        rfl
    · rw [if_neg z] at e
      exact h.sound j d e
theorem WellAt.put {n c : Nat} {S : Sto} {x : Cell} (h : WellAt n S) (hne : n ≠ c) : WellAt n (S.set c x) := by
  obtain ⟨p, q, t, h⟩ := h
  exact ⟨p, q, t, by rw [List.getElem?_set_ne (fun z => hne z.symm)]; exact h⟩
/-- the well, and what is due -/
structure St (vs : List Int) (s : Nat) (a b : Int) (n dn : Nat) (m : Int) (ks : List (List Int)) (S : Sto) : Prop where
  well : WellAt n S
  ne : n ≠ dn
  ok : ∃ ds, S[dn]? = some (.dct ks ds) ∧ DOk vs s a b m ks ds
theorem St.app {n dn : Nat} {m : Int} {ks : List (List Int)} {S : Sto} (h : St vs s a b n dn m ks S) (J : Sto) : St vs s a b n dn m ks (S ++ J) := by
  obtain ⟨ds, e, o⟩ := h.ok
  exact ⟨h.well.app J, h.ne, ds, by rw [List.getElem?_append_left (List.getElem?_eq_some_iff.mp e).1]; exact e, o⟩
/-- one table told -/
theorem put_turn (V : VPoll vs s a b) {n dn : Nat} {m : Int} {ks : List (List Int)} {S : Sto} (h : St vs s a b n dn m ks S) {t : List Int} (T : IsT vs s t) (ht : needT vs a b t ≤ m) (x1 x6 x9 x10 x11 x12 x13 : Option D) :
    ∃ S', turnOf g__law_right_2 b__law_right_2 (tupI t) [some (.cel n), x1, some (tupI vs), some (.int s), some (rD a b), some (pollD vs s a b), x6, some (.cel dn), some (.int m), x9, x10, x11, x12, x13, none, none] S = .nx [some (.cel n), x1, some (tupI vs), some (.int s), some (rD a b), some (pollD vs s a b), x6, some (.cel dn), some (.int m), x9, x10, some (tupI t), x12, x13, none, none] S' ∧ St vs s a b n dn m (putKs ks t) S' := by
  obtain ⟨ds, e, o⟩ := h.ok
  have hd : dn < S.length := (List.getElem?_eq_some_iff.mp e).1
  refine ⟨S.set dn (.dct (putKs ks t) (putDs ks ds t ((dAt ks ds t).getD (.int m)))), ?_, ⟨h.well.put h.ne, h.ne, _, List.getElem?_set_self hd, o.put T ht⟩⟩
  have g := dget_tup e t
  have p := dput_tup e (o.small V) t ((dAt ks ds t).getD (.int m))
  have c := dctOf_cel e
  simp only [turnOf, gNm_ap, tg_nx, seq_nx, List.set, sDPut_ap, cDGet2_ap, cVar_ap, List.getElem?_cons_succ, List.getElem?_cons_zero, bind_ok, c, Option.isSome_some, if_true, g, th_ok, p]
/-- all results with some votes more told -/
theorem later_ok (V : VPoll vs s a b) {way : List Int} (hw : way.length = vs.length) (S : Sto) (x0 x1 x3 x4 x5 x6 x7 x8 x10 x11 x12 x13 : Option D) : ∀ r,
    (s__law_right_3 [x0, x1, some (tupI vs), x3, x4, x5, x6, x7, x8, some (tupI way), x10, x11, x12, x13, none, none] S).seq r = r [x0, x1, some (tupI vs), x3, x4, x5, x6, x7, x8, some (tupI way), some (tupI (addW vs way)), x11, x12, x13, none, none] S := fun r => by
  have l1 := V.v.l1
  have zl : (zipL (vs.map D.int) (way.map D.int)).length = vs.length := by
    rw [zip_len _ _ (by rw [List.length_map, List.length_map, hw]), List.length_map]
  have lc := lc_map (g := g__law_right_1) (t := t__law_right_1) (e := e__law_right_1) (env0 := [x0, x1, some (tupI vs), x3, x4, x5, x6, x7, x8, some (tupI way), x10, x11, x12, x13, none, none]) (xs := List.range vs.length) (m := vs.length) (ds := zipL (vs.map D.int) (way.map D.int)) (S := S)
    (fun i _ => .tup [.int (vs.getD i 0), .int (way.getD i 0)]) (fun _ => true) (fun i => .int (vs.getD i 0 + way.getD i 0)) (by simp) (by simp [zl]) (fun i x hx => by
      have hi : i < vs.length := by
        have := (List.getElem?_eq_some_iff.mp hx).1
        simpa using this
      cases hz : (zipL (vs.map D.int) (way.map D.int))[i]? with
      | none =>
        have := List.getElem?_eq_none_iff.mp hz
        omega
      | some d => rw [(zip_at hz).2]) (by rw [List.length_range]; show _ ≤ 16777216; omega) fun i x hx => ⟨_, by
      simp only [gTpn_tup, List.length_cons, List.length_nil, Nat.zero_add, Nat.reduceAdd, if_true, gsCons_cons, gNm_ap, seq_nx, gsNil_nil, List.set]
      rfl, rfl, fun _ => by
      have hxi : x = i := by
        have hi : i < vs.length := by
          have := (List.getElem?_eq_some_iff.mp hx).1
          simpa using this
        rw [List.getElem?_range hi] at hx
        exact (Option.some.inj hx).symm
      subst hxi
      simp only [cBin_ap, cVar_ap, List.getElem?_cons_succ, List.getElem?_cons_zero, bind_ok, oAddG_int]⟩
  rw [List.filter_eq_self.mpr fun _ _ => rfl] at lc
  have zs : ∀ S0, (cCons (cVar 2) (cCons (cVar 9) cNil)) [x0, x1, some (tupI vs), x3, x4, x5, x6, x7, x8, some (tupI way), x10, x11, x12, x13, none, none] S0 = .ok [tupI vs, tupI way] S0 := fun S0 => by
    simp only [cCons_ap, cVar_ap, cNil_ap, List.getElem?_cons_succ, List.getElem?_cons_zero, bind_ok]
  have hz : iZipD (cCons (cVar 2) (cCons (cVar 9) cNil)) [x0, x1, some (tupI vs), x3, x4, x5, x6, x7, x8, some (tupI way), x10, x11, x12, x13, none, none] S = .ok (.fix (zipL (vs.map D.int) (way.map D.int))) S := by
    unfold iZipD
    rw [zs]
    rfl
  have tp : ∀ S, fTuple [.lst ((List.range vs.length).map fun i => .int (vs.getD i 0 + way.getD i 0))] S = .ok (tupI (addW vs way)) S := fun S => by
    rw [tupI, addW, List.map_map]
    rfl
  simp only [sSet_ap, cApp_ap, cCons_ap, cNil_ap, cVal_ap, cLc_ap, hz, bind_ok, fix_n, zl, wipeD, List.set, lc, tp, th_ok, seq_nx]
theorem way_turn (V : VPoll vs s a b) (ha : 1 ≤ a) {n dn : Nat} {m : Int} {ks : List (List Int)} {S : Sto} (h : St vs s a b n dn m ks S) {way : List Int} (hw : way.length = vs.length) (h0 : ∀ x ∈ way, 0 ≤ x) (hm : way.sum = m) (hm1 : m ≤ 1000) (x1 x6 x9 x10 x11 x12 x13 : Option D) :
    ∃ S' ks' y10 y11, turnOf g__law_right_5 b__law_right_5 (tupI way) [some (.cel n), x1, some (tupI vs), some (.int s), some (rD a b), some (pollD vs s a b), x6, some (.cel dn), some (.int m), x9, x10, x11, x12, x13, none, none] S = .nx [some (.cel n), x1, some (tupI vs), some (.int s), some (rD a b), some (pollD vs s a b), x6, some (.cel dn), some (.int m), some (tupI way), y10, y11, x12, x13, none, none] S' ∧ St vs s a b n dn m ks' S' ∧
      (∀ k ∈ ks, k ∈ ks') ∧ ∀ t ∈ resT (addW vs way) s a b, t ∈ ks' := by
  have W := add_res V ha hw h0 (by omega)
  obtain ⟨J, el⟩ := lresults_ok W ha S
  have h1 := h.app J
  have lt := later_ok V hw S (some (.cel n)) x1 (some (.int s)) (some (rD a b)) (some (pollD vs s a b)) x6 (some (.cel dn)) (some (.int m)) x10 x11 x12 x13
  have loop := for_all (items := (resT (addW vs way) s a b).map tupI) (g := g__law_right_2) (b := b__law_right_2) (env := [some (.cel n), x1, some (tupI vs), some (.int s), some (rD a b), some (pollD vs s a b), x6, some (.cel dn), some (.int m), some (tupI way), some (tupI (addW vs way)), x11, x12, x13, none, none]) (S := S ++ J)
    (fun i env S' => ∃ ks' y11, St vs s a b n dn m ks' S' ∧ env = [some (.cel n), x1, some (tupI vs), some (.int s), some (rD a b), some (pollD vs s a b), x6, some (.cel dn), some (.int m), some (tupI way), some (tupI (addW vs way)), y11, x12, x13, none, none] ∧ (∀ k ∈ ks, k ∈ ks') ∧ ∀ t ∈ (resT (addW vs way) s a b).take i, t ∈ ks') ⟨ks, x11, h1, rfl, fun k hk => hk, fun t ht => by simp at ht⟩ (by
      rintro i d env S' hd ⟨ks', y11, hst, rfl, hk, htk⟩
      rw [List.getElem?_map] at hd
      obtain ⟨t, ht, rfl⟩ := Option.map_eq_some_iff.mp hd
      obtain ⟨T, hn⟩ := reach_need V ha hw h0 (by omega) (List.mem_of_getElem? ht)
      obtain ⟨S2, e2, st2⟩ := put_turn V hst T (by omega) x1 x6 (some (tupI way)) (some (tupI (addW vs way))) y11 x12 x13
      have htt : (resT (addW vs way) s a b).take (i + 1) = (resT (addW vs way) s a b).take i ++ [t] := by rw [List.take_add_one, ht]; rfl
      refine ⟨_, S2, .inl e2, _, _, st2, rfl, fun k hk' => mem_putKs.mpr (.inl (hk k hk')), fun u hu => ?_⟩
      rw [htt, List.mem_append, List.mem_singleton] at hu
      exact mem_putKs.mpr (hu.imp (htk u) id))
  obtain ⟨_, S', e, ks', y11, st, rfl, hk, htk⟩ := loop
  rw [List.length_map] at e htk
  rw [List.take_length] at htk
  refine ⟨S', ks', some (tupI (addW vs way)), y11, ?_, st, hk, htk⟩
  have h0' : turnOf g__law_right_5 b__law_right_5 (tupI way) [some (.cel n), x1, some (tupI vs), some (.int s), some (rD a b), some (pollD vs s a b), x6, some (.cel dn), some (.int m), x9, x10, x11, x12, x13, none, none] S = b__law_right_5 [some (.cel n), x1, some (tupI vs), some (.int s), some (rD a b), some (pollD vs s a b), x6, some (.cel dn), some (.int m), some (tupI way), x10, x11, x12, x13, none, none] S := by
    simp only [turnOf, gNm_ap, tg_nx, seq_nx, List.set]
  rw [h0']
  unfold b__law_right_5
  rw [sSeq_ap, lt]
  simp only [sFor_ap, iSeq_ap, cApp_ap, cCons_ap, cVar_ap, cNil_ap, List.getElem?_cons_succ, List.getElem?_cons_zero, bind_ok, el, srcOf_lst, th_ok, fix_n, List.length_map, e]
theorem round_turn (V : VPoll vs s a b) (ha : 1 ≤ a) {n dn : Nat} {i : Nat} (hi : i < 9) {ks : List (List Int)} {S : Sto} (h : St vs s a b n dn (i : Int) ks S) (x1 x6 x8 x9 x10 x11 x12 x13 : Option D) :
    ∃ S' ks' y9 y10 y11, turnOf g__law_right_6 b__law_right_6 (.int (i : Nat)) [some (.cel n), x1, some (tupI vs), some (.int s), some (rD a b), some (pollD vs s a b), x6, some (.cel dn), x8, x9, x10, x11, x12, x13, none, none] S = .nx [some (.cel n), x1, some (tupI vs), some (.int s), some (rD a b), some (pollD vs s a b), x6, some (.cel dn), some (.int (i : Nat)), y9, y10, y11, x12, x13, none, none] S' ∧ St vs s a b n dn ((i + 1 : Nat) : Int) ks' S' := by
  have l0 := V.v.l0
  have l1 := V.v.l1
  have len5 : ∀ S, fLen [tupI vs] S = .ok (.int vs.length) S := fun S => by simp [tupI]
  obtain ⟨J, ew⟩ := ways_ok (many := (i : Int)) (n := vs.length) (by omega) (by omega) (by omega) (by omega) S
  have h1 := h.app J
  have hw : ∀ w ∈ waysL (i : Int) vs.length, w.length = vs.length ∧ (∀ x ∈ w, 0 ≤ x) ∧ w.sum = (i : Int) := fun w hw => (waysL_iff (by omega) (by omega) w).mp hw
  have loop := for_all (items := (waysL (i : Int) vs.length).map tupI) (g := g__law_right_5) (b := b__law_right_5) (env := [some (.cel n), x1, some (tupI vs), some (.int s), some (rD a b), some (pollD vs s a b), x6, some (.cel dn), some (.int (i : Nat)), x9, x10, x11, x12, x13, none, none]) (S := S ++ J)
    (fun q env S' => ∃ ks' y9 y10 y11, St vs s a b n dn (i : Int) ks' S' ∧ env = [some (.cel n), x1, some (tupI vs), some (.int s), some (rD a b), some (pollD vs s a b), x6, some (.cel dn), some (.int (i : Nat)), y9, y10, y11, x12, x13, none, none] ∧ ∀ w ∈ (waysL (i : Int) vs.length).take q, ∀ t ∈ resT (addW vs w) s a b, t ∈ ks') ⟨ks, x9, x10, x11, h1, rfl, fun w hw => by simp at hw⟩ (by
      rintro q d env S' hd ⟨ks', y9, y10, y11, hst, rfl, hk⟩
      rw [List.getElem?_map] at hd
      obtain ⟨w, hwq, rfl⟩ := Option.map_eq_some_iff.mp hd
      obtain ⟨w1, w2, w3⟩ := hw w (List.mem_of_getElem? hwq)
      obtain ⟨S2, ks2, z10, z11, e2, st2, k1, k2⟩ := way_turn V ha hst w1 w2 w3 (by omega) x1 x6 y9 y10 y11 x12 x13
      have htt : (waysL (i : Int) vs.length).take (q + 1) = (waysL (i : Int) vs.length).take q ++ [w] := by rw [List.take_add_one, hwq]; rfl
      refine ⟨_, S2, .inl e2, ks2, _, z10, z11, st2, rfl, fun u hu t ht => ?_⟩
      rw [htt, List.mem_append, List.mem_singleton] at hu
      rcases hu with hu | rfl
      · exact k1 t (hk u hu t ht)
      · exact k2 t ht)
  obtain ⟨_, S', e, ks', y9, y10, y11, st, rfl, hk⟩ := loop
  rw [List.length_map] at e hk
  rw [List.take_length] at hk
  refine ⟨S', ks', y9, y10, y11, ?_, st.well, st.ne, ?_⟩
  · simp only [turnOf, gNm_ap, tg_nx, seq_nx, List.set, sFor_ap, iSeq_ap, cApp_ap, cCons_ap, cVar_ap, cNil_ap, List.getElem?_cons_succ, List.getElem?_cons_zero, bind_ok, len5, ew, srcOf_lst, th_ok, fix_n, List.length_map, e]
  · obtain ⟨ds, e, o⟩ := st.ok
    refine ⟨ds, e, o.len, o.nd, o.key, o.sound, fun j T hj => ?_, fun k hk => by have := o.bd k hk; omega⟩
    by_cases z : needT vs a b j < (i : Int)
    · exact o.comp j T z
    · obtain ⟨w, w1, w2, w3, w4⟩ := need_reach V ha T
      have : needT vs a b j = (i : Int) := by omega
      exact hk w ((waysL_iff (by omega) (by omega) w).mpr ⟨w1, w2, by omega⟩) j w4
end
end Q
end

section
set_option linter.all false
set_option maxRecDepth 100000
set_option maxHeartbeats 4000000
set_option autoImplicit false
/-! the law k44 (printed by mkk2.py) -/
namespace Q
open DL M
section
variable {vs : List Int} {s : Nat} {a b : Int}
theorem kw2 (x y : D) : arr [1, 0] ([x, y] : List D) = [y, x] := rfl
theorem repr_num {x : Int} (x0 : 0 ≤ x) (x1 : x < 10 ^ 10) : ∃ t, PySem.SeqAt.shaped (.str t) = true ∧ ∀ S, fRepr [.int x] S = .ok (.str t) S := repr_good (d := 0) (n := 10) (p := .int x) (fun S => rfl) (good_int x0 x1) (by decide) (by decide)
theorem ne_forD (x : Int) (S : Sto) : oNe (forD x) (forD x) S = .ok (.bl false) S := by
  unfold forD
  split
  · rw [oNe_int, decide_eq_true rfl]
    rfl
  · rfl
/-- one drawn table -/
theorem draw_turn (V : VPoll vs s a b) (ha : 1 ≤ a) (hn : vs.length ≤ 4) {n dn : Nat} {ks : List (List Int)} {S : Sto} (h : St vs s a b n dn 9 ks S) (i : Nat) (x1 x8 x9 x10 x11 x12 x13 : Option D) :
    ∃ S' y11 y13, turnOf g__law_right_11 b__law_right_11 (.int (i : Nat)) [some (.cel n), x1, some (tupI vs), some (.int s), some (rD a b), some (pollD vs s a b), some (.lst ((waysL s vs.length).map tupI)), some (.cel dn), x8, x9, x10, x11, x12, x13, none, none] S = .nx [some (.cel n), x1, some (tupI vs), some (.int s), some (rD a b), some (pollD vs s a b), some (.lst ((waysL s vs.length).map tupI)), some (.cel dn), x8, x9, x10, y11, some (.int (i : Nat)), y13, none, none] S' ∧ St vs s a b n dn 9 ks S' := by
  have l0 := V.v.l0
  have s1 := V.s1
  have hlen : (waysL s vs.length).length ≤ 16 ^ 3 := by
    unfold waysL
    rw [List.length_map]
    exact Nat.le_trans (wIter_len (by omega) (by omega) _) (Nat.pow_le_pow_right (by omega) (by omega))
  have hpos : 0 < (waysL s vs.length).length := List.length_pos_of_mem ((waysL_iff (many := (s : Int)) (n := vs.length) (by omega) l0 ((s : Int) :: List.replicate (vs.length - 1) 0)).mpr ⟨by simp; omega, fun x hx => by
    rcases List.mem_cons.mp hx with rfl | hx
    · omega
    · rw [(List.mem_replicate.mp hx).2]
      omega, by rw [List.sum_cons, rep_sum]; omega⟩)
  obtain ⟨k, hk, S1, e1, w1, c, hS1⟩ := of_ok (ds := (waysL s vs.length).map tupI) h.well (by rw [List.length_map]; omega) (by rw [List.length_map]; omega)
  have hk' : k < (waysL s vs.length).length := by rwa [List.length_map] at hk
  obtain ⟨t, ht⟩ : ∃ t, t = (waysL s vs.length)[k] := ⟨_, rfl⟩
  have e1 : F__law_of [.cel n, .lst ((waysL s vs.length).map tupI)] S = .ok (tupI t) S1 := by
    rw [e1, List.getElem_map, ht]
  have T : IsT vs s t := (isT_ways l0).mp (by rw [ht]; exact List.getElem_mem hk')
  obtain ⟨ds, hd, o⟩ := h.ok
  have hd1 : S1[dn]? = some (.dct ks ds) := by
    rw [hS1, List.getElem?_set_ne h.ne]
    exact hd
  obtain ⟨J2, e2⟩ := votesT_ok V ha T S1
  obtain ⟨J3, e3⟩ := votesT_ok V ha T (S1 ++ J2)
  have nn := needT_nn V ha T
  have hd3 : (S1 ++ J2 ++ J3)[dn]? = some (.dct ks ds) := by
    rw [List.append_assoc, List.getElem?_append_left (List.getElem?_eq_some_iff.mp hd1).1]
    exact hd1
  refine ⟨S1 ++ J2 ++ J3, some (tupI t), some (forD (needT vs a b t)), ?_, (w1.app J2).app J3, h.ne, ds, hd3, o⟩
  have g := dget_tup hd3 t
  have nf := fun S => ne_forD (needT vs a b t) S
  have h7 : ∀ r, (s__law_right_7 [some (.cel n), x1, some (tupI vs), some (.int s), some (rD a b), some (pollD vs s a b), some (.lst ((waysL s vs.length).map tupI)), some (.cel dn), x8, x9, x10, x11, some (.int (i : Nat)), x13, none, none] S).seq r = r [some (.cel n), x1, some (tupI vs), some (.int s), some (rD a b), some (pollD vs s a b), some (.lst ((waysL s vs.length).map tupI)), some (.cel dn), x8, x9, x10, some (tupI t), some (.int (i : Nat)), x13, none, none] S1 := fun r => by
    simp only [sSet_ap, cApp_ap, cCons_ap, cVar_ap, cNil_ap, List.getElem?_cons_succ, List.getElem?_cons_zero, bind_ok, e1, th_ok, List.set, seq_nx]
  have h8 : ∀ r, (s__law_right_8 [some (.cel n), x1, some (tupI vs), some (.int s), some (rD a b), some (pollD vs s a b), some (.lst ((waysL s vs.length).map tupI)), some (.cel dn), x8, x9, x10, some (tupI t), some (.int (i : Nat)), x13, none, none] S1).seq r = r [some (.cel n), x1, some (tupI vs), some (.int s), some (rD a b), some (pollD vs s a b), some (.lst ((waysL s vs.length).map tupI)), some (.cel dn), x8, x9, x10, some (tupI t), some (.int (i : Nat)), some (forD (needT vs a b t)), none, none] (S1 ++ J2) := fun r => by
    simp only [sSet_ap, cApp_ap, cCons_ap, cVar_ap, cNil_ap, List.getElem?_cons_succ, List.getElem?_cons_zero, bind_ok, e2, th_ok, List.set, seq_nx]
  have h9 : ∀ r, (s__law_right_9 [some (.cel n), x1, some (tupI vs), some (.int s), some (rD a b), some (pollD vs s a b), some (.lst ((waysL s vs.length).map tupI)), some (.cel dn), x8, x9, x10, some (tupI t), some (.int (i : Nat)), some (forD (needT vs a b t)), none, none] (S1 ++ J2)).seq r = r [some (.cel n), x1, some (tupI vs), some (.int s), some (rD a b), some (pollD vs s a b), some (.lst ((waysL s vs.length).map tupI)), some (.cel dn), x8, x9, x10, some (tupI t), some (.int (i : Nat)), some (forD (needT vs a b t)), none, none] (S1 ++ J2 ++ J3) := fun r => by
    have h2 : ∀ S, (cAndT (cTst (cBin oNotN (cVar 13) (cK .non))) (cOrT (cTst (cApp fIsi (cCons (cVar 13) (cCons (cK (.ty "bool")) (cNil))))) (cTst (cBin oLt (cVar 13) (cK (.int 0)))))) [some (.cel n), x1, some (tupI vs), some (.int s), some (rD a b), some (pollD vs s a b), some (.lst ((waysL s vs.length).map tupI)), some (.cel dn), x8, x9, x10, some (tupI t), some (.int (i : Nat)), some (forD (needT vs a b t)), none, none] S = .ok false S := fun S => by
      by_cases z : needT vs a b t ≤ 99999
      · have e : forD (needT vs a b t) = .int (needT vs a b t) := if_pos z
        have n1 : ∀ (z : Int) S, oNotN (.int z) .non S = .ok (.bl true) S := fun z S => rfl
        have c1 : decide (needT vs a b t < 0) = false := decide_eq_false (by omega)
        rw [e]
        simp only [cAndT_ap, cOrT_ap, cTst_ap, cBin_ap, cApp_ap, cCons_ap, cVar_ap, cK_ap, cNil_ap, List.getElem?_cons_succ, List.getElem?_cons_zero, bind_ok, n1, asB_bl, if_true, isi_ib, Bool.false_eq_true, if_false, oLt_int, c1]
      · have e : forD (needT vs a b t) = .non := if_neg z
        have n1 : ∀ S, oNotN .non .non S = .ok (.bl false) S := fun S => rfl
        rw [e]
        simp only [cAndT_ap, cTst_ap, cBin_ap, cVar_ap, cK_ap, List.getElem?_cons_succ, List.getElem?_cons_zero, bind_ok, n1, asB_bl, Bool.false_eq_true, if_false]
    show ((sIf (cOrT _ _) _ _) _ _).seq r = _
    rw [sIf_ap, cOrT_ap]
    simp only [cTst_ap, cBin_ap, cKw_ap, cCons_ap, cVar_ap, cNil_ap, List.getElem?_cons_succ, List.getElem?_cons_zero, bind_ok, List.length_cons, List.length_nil, Nat.zero_add, Nat.reduceAdd, and_self, if_true, List.nil_append, kw2, e3, nf, asB_bl, Bool.false_eq_true, if_false]
    rw [h2, th_ok]
    simp only [Bool.false_eq_true, if_false, sNil_ap, seq_nx]
  have h10 : s__law_right_10 [some (.cel n), x1, some (tupI vs), some (.int s), some (rD a b), some (pollD vs s a b), some (.lst ((waysL s vs.length).map tupI)), some (.cel dn), x8, x9, x10, some (tupI t), some (.int (i : Nat)), some (forD (needT vs a b t)), none, none] (S1 ++ J2 ++ J3) = .nx [some (.cel n), x1, some (tupI vs), some (.int s), some (rD a b), some (pollD vs s a b), some (.lst ((waysL s vs.length).map tupI)), some (.cel dn), x8, x9, x10, some (tupI t), some (.int (i : Nat)), some (forD (needT vs a b t)), none, none] (S1 ++ J2 ++ J3) := by
    by_cases hm : t ∈ ks
    · obtain ⟨d, hdd⟩ := (dAt_key o.len).mp hm
      have ed := o.sound t d hdd
      subst ed
      rw [hdd] at g
      have hb := o.bd t hm
      have e : forD (needT vs a b t) = .int (needT vs a b t) := if_pos (by omega)
      obtain ⟨tx, sh, rp⟩ := repr_num nn (show needT vs a b t < 10 ^ 10 by omega)
      have nst := fun S => ne_str S tx sh
      rw [e]
      simp only [sIf_ap, cOrT_ap, cAndT_ap, cTst_ap, cDIn_ap, cDGet_ap, cBin_ap, cApp_ap, cCons_ap, cVar_ap, cNil_ap, List.getElem?_cons_succ, List.getElem?_cons_zero, bind_ok, g, Option.isSome_some, Bool.false_eq_true, if_false, if_true, asB_bl, rp, nst, Bool.not_true, th_ok, sNil_ap]
    · have hnone : dAt ks ds t = none := by
        cases hx : dAt ks ds t with
        | none => rfl
        | some d => exact absurd ((dAt_key o.len).mpr ⟨d, hx⟩) hm
      have h9' : ¬ needT vs a b t < 9 := fun z => hm (o.comp t T z)
      rw [hnone] at g
      by_cases z : needT vs a b t ≤ 99999
      · have e : forD (needT vs a b t) = .int (needT vs a b t) := if_pos z
        have n1 : ∀ (z : Int) S, oNotN (.int z) .non S = .ok (.bl true) S := fun z S => rfl
        rw [e]
        simp only [sIf_ap, cOrT_ap, cAndT_ap, cTst_ap, cDIn_ap, cBin_ap, cVar_ap, cK_ap, List.getElem?_cons_succ, List.getElem?_cons_zero, bind_ok, g, Option.isSome_none, Bool.false_eq_true, if_false, if_true, asB_bl, Bool.not_false, n1, oLt_int, decide_eq_false h9', th_ok, sNil_ap]
      · have e : forD (needT vs a b t) = .non := if_neg z
        have n1 : ∀ S, oNotN .non .non S = .ok (.bl false) S := fun S => rfl
        rw [e]
        simp only [sIf_ap, cOrT_ap, cAndT_ap, cTst_ap, cDIn_ap, cBin_ap, cVar_ap, cK_ap, List.getElem?_cons_succ, List.getElem?_cons_zero, bind_ok, g, Option.isSome_none, Bool.false_eq_true, if_false, if_true, asB_bl, Bool.not_false, n1, th_ok, sNil_ap]
  have h0' : turnOf g__law_right_11 b__law_right_11 (.int (i : Nat)) [some (.cel n), x1, some (tupI vs), some (.int s), some (rD a b), some (pollD vs s a b), some (.lst ((waysL s vs.length).map tupI)), some (.cel dn), x8, x9, x10, x11, x12, x13, none, none] S = b__law_right_11 [some (.cel n), x1, some (tupI vs), some (.int s), some (rD a b), some (pollD vs s a b), some (.lst ((waysL s vs.length).map tupI)), some (.cel dn), x8, x9, x10, x11, some (.int (i : Nat)), x13, none, none] S := by
    simp only [turnOf, gNm_ap, tg_nx, seq_nx, List.set]
  rw [h0']
  unfold b__law_right_11
  rw [sSeq_ap, h7, sSeq_ap, h8, sSeq_ap, h9, h10]
theorem right_ok {n : Nat} {S : Sto} (hS : WellAt n S) (P T Q : Nat) (hP0 : 1 ≤ P) (hP : P ≤ 4) (hT0 : 1 ≤ T) (hT : T ≤ 999) (hQ0 : 1 ≤ Q) (hQ : Q ≤ 15) : ∃ S', WellAt n S' ∧ F__law_right [.cel n, .tup [.int P, .int T, .int Q]] S = .ok (.bl true) S' := by
  obtain ⟨vs, s, a, b, S1, dp, w1, e1⟩ := poll_draw hS P T Q hP0 (by omega) hT0 (by omega) hQ0 hQ
  have V := dp.vpoll (by omega) (by omega) hQ
  have ha := dp.r.a1
  have l0 := V.v.l0
  have l1 := V.v.l1
  have s1 := V.s1
  have hn : vs.length ≤ 4 := by have := dp.l1; omega
  have len5 : ∀ S, fLen [tupI vs] S = .ok (.int vs.length) S := fun S => by simp [tupI]
  have i0 : ∀ S, oIx (.tup [.int P, .int T, .int Q]) (.int 0) S = .ok (.int P) S := fun S => rfl
  have i1 : ∀ S, oIx (.tup [.int P, .int T, .int Q]) (.int 1) S = .ok (.int T) S := fun S => rfl
  have i2 : ∀ S, oIx (.tup [.int P, .int T, .int Q]) (.int 2) S = .ok (.int Q) S := fun S => rfl
  have he : entry 16 [.cel n, .tup [.int P, .int T, .int Q]] = [some (.cel n), some (.tup [.int P, .int T, .int Q]), none, none, none, none, none, none, none, none, none, none, none, none, none, none] := rfl
  have mk := fun S => poll_ok V S
  have h13 : ∀ r, (s__law_right_13 [some (.cel n), some (.tup [.int P, .int T, .int Q]), none, none, none, none, none, none, none, none, none, none, none, none, none, none] S).seq r = r [some (.cel n), some (.tup [.int P, .int T, .int Q]), some (tupI vs), some (.int s), some (rD a b), none, none, none, none, none, none, none, none, none, none, none] S1 := fun r => by
    simp only [sAsg_ap, cApp_ap, cCons_ap, cBin_ap, cVar_ap, cK_ap, cNil_ap, List.getElem?_cons_succ, List.getElem?_cons_zero, bind_ok, i0, i1, i2, e1, th_ok, gTpn_tup, List.length_cons, List.length_nil, Nat.zero_add, Nat.reduceAdd, if_true, gsCons_cons, gNm_ap, seq_nx, gsNil_nil, tg_nx, List.set]
  have h14 : ∀ r, (s__law_right_14 [some (.cel n), some (.tup [.int P, .int T, .int Q]), some (tupI vs), some (.int s), some (rD a b), none, none, none, none, none, none, none, none, none, none, none] S1).seq r = r [some (.cel n), some (.tup [.int P, .int T, .int Q]), some (tupI vs), some (.int s), some (rD a b), some (pollD vs s a b), none, none, none, none, none, none, none, none, none, none] S1 := fun r => by
    simp only [sSet_ap, cApp_ap, cCons_ap, cVar_ap, cNil_ap, List.getElem?_cons_succ, List.getElem?_cons_zero, bind_ok, mk, th_ok, List.set, seq_nx]
  obtain ⟨J2, e2⟩ := ways_ok (many := (s : Int)) (n := vs.length) (by omega) (by omega) l0 l1 S1
  have w2 := w1.app J2
  have l2 : (0 : Nat) + 1 + 1 ≤ LIM := by decide
  have h15 : ∀ r, (s__law_right_15 [some (.cel n), some (.tup [.int P, .int T, .int Q]), some (tupI vs), some (.int s), some (rD a b), some (pollD vs s a b), none, none, none, none, none, none, none, none, none, none] S1).seq r = r [some (.cel n), some (.tup [.int P, .int T, .int Q]), some (tupI vs), some (.int s), some (rD a b), some (pollD vs s a b), some (.lst ((waysL s vs.length).map tupI)), some (.cel (S1 ++ J2).length), none, none, none, none, none, none, none, none] ((S1 ++ J2) ++ [.dct [] []]) := fun r => by
    simp only [sAsg_ap, cTup_ap, cApp_ap, cCons_ap, cVar_ap, cNil_ap, List.getElem?_cons_succ, List.getElem?_cons_zero, bind_ok, len5, e2, cDNew_ap, List.length_cons, List.length_nil, if_pos l2, th_ok, gTpn_tup, Nat.zero_add, Nat.reduceAdd, if_true, gsCons_cons, gNm_ap, seq_nx, gsNil_nil, tg_nx, List.set]
  generalize S1 ++ J2 = S2 at *
  have hne : n ≠ S2.length := by
    obtain ⟨p, q, t, h⟩ := w2
    have := (List.getElem?_eq_some_iff.mp h).1
    omega
  have st0 : St vs s a b n S2.length ((0 : Nat) : Int) [] (S2 ++ [.dct [] []]) := ⟨w2.app _, hne, [], get_last _ _, rfl, List.nodup_nil, fun k hk => by simp at hk, fun j d e => by simp [dAt] at e, fun j T hj => by have := needT_nn V ha T; omega, fun k hk => by simp at hk⟩
  generalize S2.length = dn at *
  generalize S2 ++ [.dct [] []] = S3 at *
  have loop := for_all (items := rngL 0 9) (g := g__law_right_6) (b := b__law_right_6) (env := [some (.cel n), some (.tup [.int P, .int T, .int Q]), some (tupI vs), some (.int s), some (rD a b), some (pollD vs s a b), some (.lst ((waysL s vs.length).map tupI)), some (.cel dn), none, none, none, none, none, none, none, none]) (S := S3)
    (fun i env S' => ∃ ks x8 x9 x10 x11, St vs s a b n dn ((i : Nat) : Int) ks S' ∧ env = [some (.cel n), some (.tup [.int P, .int T, .int Q]), some (tupI vs), some (.int s), some (rD a b), some (pollD vs s a b), some (.lst ((waysL s vs.length).map tupI)), some (.cel dn), x8, x9, x10, x11, none, none, none, none]) ⟨[], none, none, none, none, st0, rfl⟩ (by
      rintro i d env S' hd ⟨ks, x8, x9, x10, x11, st, rfl⟩
      have hi : i < 9 := by
        have := (List.getElem?_eq_some_iff.mp hd).1
        rwa [rngL_len] at this
      rw [rngL_get hi] at hd
      cases hd
      obtain ⟨S4, ks', y9, y10, y11, e, st'⟩ := round_turn V ha hi st (some (.tup [.int P, .int T, .int Q])) (some (.lst ((waysL s vs.length).map tupI))) x8 x9 x10 x11 none none
      rw [Int.zero_add]
      exact ⟨_, S4, .inl e, ks', _, y9, y10, y11, st', rfl⟩)
  obtain ⟨_, S4, e16, ks, x8, x9, x10, x11, st, rfl⟩ := loop
  rw [rngL_len] at e16 st
  have rg9 := fun S => rng1F_of S (z := 9) 9 rfl (by omega)
  have rg8 := fun S => rng1F_of S (z := 8) 8 rfl (by omega)
  have h16 : ∀ r, (s__law_right_16 [some (.cel n), some (.tup [.int P, .int T, .int Q]), some (tupI vs), some (.int s), some (rD a b), some (pollD vs s a b), some (.lst ((waysL s vs.length).map tupI)), some (.cel dn), none, none, none, none, none, none, none, none] S3).seq r = r [some (.cel n), some (.tup [.int P, .int T, .int Q]), some (tupI vs), some (.int s), some (rD a b), some (pollD vs s a b), some (.lst ((waysL s vs.length).map tupI)), some (.cel dn), x8, x9, x10, x11, none, none, none, none] S4 := fun r => by
    simp only [sFor_ap, iRng1D_ap, cCons_ap, cK_ap, cNil_ap, bind_ok, rg9, th_ok, fix_n, rngL_length, e16, seq_nx]
  have loop2 := for_all (items := rngL 0 8) (g := g__law_right_11) (b := b__law_right_11) (env := [some (.cel n), some (.tup [.int P, .int T, .int Q]), some (tupI vs), some (.int s), some (rD a b), some (pollD vs s a b), some (.lst ((waysL s vs.length).map tupI)), some (.cel dn), x8, x9, x10, x11, none, none, none, none]) (S := S4)
    (fun i env S' => ∃ y11 x12 x13, St vs s a b n dn 9 ks S' ∧ env = [some (.cel n), some (.tup [.int P, .int T, .int Q]), some (tupI vs), some (.int s), some (rD a b), some (pollD vs s a b), some (.lst ((waysL s vs.length).map tupI)), some (.cel dn), x8, x9, x10, y11, x12, x13, none, none]) ⟨x11, none, none, st, rfl⟩ (by
      rintro i d env S' hd ⟨y11, x12, x13, st, rfl⟩
      have hi : i < 8 := by
        have := (List.getElem?_eq_some_iff.mp hd).1
        rwa [rngL_len] at this
      rw [rngL_get hi] at hd
      cases hd
      obtain ⟨S5, z11, z13, e, st'⟩ := draw_turn V ha hn st i (some (.tup [.int P, .int T, .int Q])) x8 x9 x10 y11 x12 x13
      rw [Int.zero_add]
      exact ⟨_, S5, .inl e, z11, _, z13, st', rfl⟩)
  obtain ⟨_, S5, e17, y11, x12, x13, st5, rfl⟩ := loop2
  rw [rngL_len] at e17
  have h17 : ∀ r, (s__law_right_17 [some (.cel n), some (.tup [.int P, .int T, .int Q]), some (tupI vs), some (.int s), some (rD a b), some (pollD vs s a b), some (.lst ((waysL s vs.length).map tupI)), some (.cel dn), x8, x9, x10, x11, none, none, none, none] S4).seq r = r [some (.cel n), some (.tup [.int P, .int T, .int Q]), some (tupI vs), some (.int s), some (rD a b), some (pollD vs s a b), some (.lst ((waysL s vs.length).map tupI)), some (.cel dn), x8, x9, x10, y11, x12, x13, none, none] S5 := fun r => by
    simp only [sFor_ap, iRng1D_ap, cCons_ap, cK_ap, cNil_ap, bind_ok, rg8, th_ok, fix_n, rngL_length, e17, seq_nx]
  have hlen : (waysL s vs.length).length ≤ 16 ^ 3 := by
    unfold waysL
    rw [List.length_map]
    exact Nat.le_trans (wIter_len (by omega) (by omega) _) (Nat.pow_le_pow_right (by omega) (by omega))
  open Classical in
  obtain ⟨S6, e18, st6⟩ := lc_stf (g := g__law_right_12) (t := t__law_right_12) (e := e__law_right_12) (env0 := [some (.cel n), some (.tup [.int P, .int T, .int Q]), some (tupI vs), some (.int s), some (rD a b), some (pollD vs s a b), some (.lst ((waysL s vs.length).map tupI)), some (.cel dn), x8, x9, x10, none, x12, x13, none, none]) (xs := waysL s vs.length) (ds := (waysL s vs.length).map tupI) (S := S5)
    (St vs s a b n dn 9 ks) tupI (fun t => decide (needT vs a b t = 0)) (fun _ => .bl true) rfl st5 (by show _ ≤ 16777216; omega) (fun t ht S hst => by
      have TT : IsT vs s t := (isT_ways l0).mp ht
      obtain ⟨ds, hd, o⟩ := hst.ok
      have g := dget_tup hd t
      have c := dctOf_cel hd
      refine ⟨_, rfl, ?_, fun hp => ?_⟩
      · by_cases hm : t ∈ ks
        · obtain ⟨d, hdd⟩ := (dAt_key o.len).mp hm
          have ed := o.sound t d hdd
          subst ed
          rw [hdd] at g
          simp only [cTst_ap, cBin_ap, cDGet2_ap, cVar_ap, cK_ap, List.set, List.getElem?_cons_succ, List.getElem?_cons_zero, bind_ok, c, Option.isSome_some, if_true, g, Option.getD_some, oEq_int, asB_bl]
        · have hnone : dAt ks ds t = none := by
            cases hx : dAt ks ds t with
            | none => rfl
            | some d => exact absurd ((dAt_key o.len).mpr ⟨d, hx⟩) hm
          have h9' : ¬ needT vs a b t < 9 := fun z => hm (o.comp t TT z)
          rw [hnone] at g
          have c0 : decide (needT vs a b t = 0) = false := decide_eq_false (by omega)
          have c1 : decide ((1 : Int) = 0) = false := by decide
          simp only [cTst_ap, cBin_ap, cDGet2_ap, cVar_ap, cK_ap, List.set, List.getElem?_cons_succ, List.getElem?_cons_zero, bind_ok, c, Option.isSome_some, if_true, g, Option.getD_none, oEq_int, c1, asB_bl, c0]
      · have hz : needT vs a b t = 0 := of_decide_eq_true hp
        obtain ⟨J, e⟩ := votesT_ok V ha TT S
        have ef : forD (needT vs a b t) = .int 0 := by
          rw [hz]
          rfl
        rw [ef] at e
        refine ⟨S ++ J, ?_, hst.app J⟩
        have c1 : decide ((0 : Int) = 0) = true := by decide
        simp only [cBin_ap, cApp_ap, cCons_ap, cVar_ap, cK_ap, cNil_ap, List.set, List.getElem?_cons_succ, List.getElem?_cons_zero, bind_ok, e, oEq_int, decide_true])
  rw [List.map_const'] at e18
  have al := fun S => all_bls (((waysL s vs.length).filter fun t => decide (needT vs a b t = 0)).length) S
  refine ⟨S6, st6.well, ?_⟩
  have hb : c__law_right [some (.cel n), some (.tup [.int P, .int T, .int Q]), none, none, none, none, none, none, none, none, none, none, none, none, none, none] S = .ret (.bl true) S6 := by
    unfold c__law_right
    rw [sSeq_ap, h13, sSeq_ap, h14, sSeq_ap, h15, sSeq_ap, h16, sSeq_ap, h17]
    simp only [sRet_ap, cApp_ap, cCons_ap, cVal_ap, cLc_ap, iSeq_ap, cVar_ap, cNil_ap, List.getElem?_cons_succ, List.getElem?_cons_zero, bind_ok, srcOf_lst, fix_n, List.length_map, wipeD, List.set, e18, al, th_ok]
  simp only [F__law_right, runF_ap, List.length_cons, List.length_nil, he, hb, if_true]
end
def mostD (m : Nat × Nat × Nat) : D := .tup [.int m.1, .int m.2.1, .int m.2.2]
def mosts : List (Nat × Nat × Nat) := [(3, 9, 4), (3, 30, 3), (2, 30, 5), (3, 5, 5)]
theorem lap_ok (ns : List Int) (k : Nat) (hk : k ≤ 100) (S : Sto) (x1 x2 x3 : Option D) : ∃ y2 y3 S',
    turnOf g_law_4 b_law_4 (.int k) [some (.kls (ns.map D.int)), x1, x2, x3] S = .nx [some (.kls (ns.map D.int)), some (.int k), y2, y3] S' := by
  obtain ⟨p0, q0, ew⟩ := pool_ok S ns k hk
  have w0 : WellAt S.length (S ++ [wellC p0 q0 0]) := ⟨p0, q0, 0, get_last _ _⟩
  generalize S.length = n at *
  generalize S ++ [wellC p0 q0 0] = S0 at *
  have loop := for_all (items := mosts.map mostD) (g := g_law_1) (b := b_law_1) (env := [some (.kls (ns.map D.int)), some (.int k), some (.cel n), x3]) (S := S0)
    (fun i env S' => WellAt n S' ∧ ∃ y3, env = [some (.kls (ns.map D.int)), some (.int k), some (.cel n), y3]) ⟨w0, x3, rfl⟩ ?_
  · obtain ⟨env', S', e, w, y3, rfl⟩ := loop
    refine ⟨some (.cel n), y3, S', ?_⟩
    have e : forN (.fix [.tup [.int 3, .int 9, .int 4], .tup [.int 3, .int 30, .int 3], .tup [.int 2, .int 30, .int 5], .tup [.int 3, .int 5, .int 5]]) g_law_1 b_law_1 4 0 _ S0 = _ := e
    have l3 : (0 : Nat) + 1 + 1 + 1 ≤ LIM := by decide
    have l4 : (0 : Nat) + 1 + 1 + 1 + 1 ≤ LIM := by decide
    have l3' : (3 : Nat) ≤ LIM := by decide
    have l4' : (4 : Nat) ≤ LIM := by decide
    simp only [turnOf, gNm_ap, tg_nx, seq_nx, List.set, sSeq_ap, sSet_ap, sFor_ap, iSeq_ap, cVal_ap, cLst_ap, cTup_ap, cCons_ap, cApp_ap, cK_ap, cVar_ap, cNil_ap, List.getElem?_cons_succ, List.getElem?_cons_zero, bind_ok, ew, th_ok, List.length_cons, List.length_nil, if_pos l3, if_pos l4, srcOf_lst, fix_n, Nat.zero_add, Nat.reduceAdd, if_pos l3', if_pos l4', e]
  · rintro i d env S' he ⟨w, y3, rfl⟩
    rw [List.getElem?_map] at he
    obtain ⟨m, hm, rfl⟩ := Option.map_eq_some_iff.mp he
    have hm := List.mem_of_getElem? hm
    have hb : 1 ≤ m.1 ∧ m.1 ≤ 4 ∧ 1 ≤ m.2.1 ∧ m.2.1 ≤ 999 ∧ 1 ≤ m.2.2 ∧ m.2.2 ≤ 15 := by
      simp only [mosts, List.mem_cons, List.not_mem_nil, or_false] at hm
      rcases hm with rfl | rfl | rfl | rfl <;> decide
    obtain ⟨b1, b2, b3, b4, b5, b6⟩ := hb
    obtain ⟨S2, w2, e⟩ := right_ok w m.1 m.2.1 m.2.2 b1 b2 b3 b4 b5 b6
    refine ⟨_, S2, .inl ?_, w2, some (mostD m), rfl⟩
    simp only [turnOf, gNm_ap, tg_nx, seq_nx, List.set, sIf_ap, cNotT_ap, cTst_ap, cApp_ap, cCons_ap, cVar_ap, cNil_ap, List.getElem?_cons_succ, List.getElem?_cons_zero, bind_ok, mostD, e, asB_bl, th_ok, Bool.not_true, Bool.false_eq_true, if_false, sNil_ap]
/-- THE LAW -/
theorem law_true (ns : List Int) (hl : ns.length ≤ 63) (hb : ∀ z ∈ ns, PySem.Builtin.Int.intBits z ≤ 1048576) : ∃ S', F_law [.kls (ns.map D.int)] [] = .ok (.bl true) S' := by
  obtain ⟨m, hm, hm2⟩ : ∃ m : Nat, max (2 : Int) (min ((ns.map D.int).length : Int) 3) = m ∧ m ≤ 3 := ⟨max 2 (min ns.length 3), by rw [List.length_map]; omega, by omega⟩
  have loop := for_all (items := rngL 0 m) (g := g_law_4) (b := b_law_4) (env := entry 4 [.kls (ns.map D.int)]) (S := [])
    (fun i env S' => ∃ y1 y2 y3, env = [some (.kls (ns.map D.int)), y1, y2, y3]) ⟨none, none, none, rfl⟩ ?_
  · obtain ⟨env', S', e1, y1, y2, y3, rfl⟩ := loop
    rw [rngL_len] at e1
    have rg := fun S => rng1F_of S (z := (m : Int)) m rfl (by omega)
    have len : ∀ S, fLen [.kls (ns.map D.int)] S = .ok (.int (ns.map D.int).length) S := fun S => rfl
    refine ⟨S', ?_⟩
    simp only [F_law, runF_ap, List.length_cons, List.length_nil, c_law, sSeq_ap, sFor_ap, iRng1D_ap, cCons_ap, cApp_ap, cK_ap, cNil_ap]
    have he : entry 4 [.kls (ns.map D.int)] = [some (.kls (ns.map D.int)), none, none, none] := rfl
    rw [he] at e1 ⊢
    simp only [cVar_ap, List.getElem?_cons_zero, bind_ok, len, min_ii, max_ii, hm, rg, th_ok, fix_n, rngL_length, e1, seq_nx, sRet_ap, cK_ap, if_true]
  · rintro i d env S' he ⟨y1, y2, y3, rfl⟩
    have hi : i < m := by
      have := (List.getElem?_eq_some_iff.mp he).1
      rwa [rngL_len] at this
    rw [rngL_get hi] at he
    cases he
    obtain ⟨z2, z3, S2, e⟩ := lap_ok ns i (by omega) S' y1 y2 y3
    refine ⟨_, S2, .inl ?_, some (.int i), z2, z3, rfl⟩
    rw [Int.zero_add]
    exact e
end Q
end

section

end

section
set_option Elab.async false
set_option linter.all false
set_option maxRecDepth 100000
set_option maxHeartbeats 0
set_option autoImplicit false
open PySem PySem.W PySem.Calls PyProof.Rows
theorem PySem.Challenge.cw_seathall_k44_votes_for_a_table_holds : PySem.Challenge.rw_seathall_k44_votes_for_a_table.Holds := by
  w_on; o_law
  refine HandSHeadRun.head_imp (r := OpenLaw.row PySem.Challenge.rw_seathall_k44_votes_for_a_table) (q := Q.qv) (H := Q.hk) (ob := Q.ob) (M := 20000) (loose := Q.loose) (d := HandSHeadRun.topDef (OpenLaw.row PySem.Challenge.rw_seathall_k44_votes_for_a_table).prog 55) (kwd := []) Q.ob_eq Q.run
    (by kernel_rfl) (by kernel_rfl) (by kernel_rfl) (by rfl) (by first | assumption | decide +kernel) (by decide +kernel) ⟨rfl, rfl, rfl, rfl, rfl, by decide +kernel⟩ ?hw ?hc
  case hw => w_witness2
  case hc =>
    refine DL.walk_b (l := PySem.Challenge.rw_seathall_k44_votes_for_a_table) (n := 63) (k := 11) (x := "script") (CX := fun w => L2.CX (PySem.Challenge.rw_seathall_k44_votes_for_a_table).prog w) rfl (by decide) (by kernel_rfl) ⟨rfl, by decide, by decide⟩ ?F ?cx
    case cx => exact fun w H s e s' z => DL.cx_no z
    intro w mg fa h Y G hmg0
    obtain ⟨K, KX, c⟩ := Y
    have hmg : mg ("law" : PySem.Str) = some (.ref fa) := by
      have e : (HandSHeadRun.topDef (OpenLaw.row PySem.Challenge.rw_seathall_k44_votes_for_a_table).prog 55).name = ("law" : PySem.Str) := by kernel_rfl
      rw [← e]
      exact hmg0
    obtain ⟨fd, FD⟩ := c.t.d.def_ 37 (d := Q.dd "law" 55) rfl
    cases hmg.symm.trans (He.glo_ok KX G (c.t.d.fact 37 (f := .glo "law") rfl))
    refine ⟨K, KX, fd, Q.tf.map (He.cT K), DL.spD K mg Q.F_law, fun p hp => ?_, fun p hp => ?_, fun p hp => ?_, fun s v => L2.FunD.bindsA (ps := ["script"]) FD Q.bp_law s [v] rfl, fun H a ns hl hbt hT hS => Q.sp_law (Q.in_tf KX G c) hT hS (Q.law_true ns hl hbt), fun base KB GB TB => ?_⟩
    · obtain ⟨d, hd, rfl⟩ := List.mem_map.mp hp
      exact c.empty d hd
    · obtain ⟨d, hd, rfl⟩ := List.mem_map.mp hp
      exact c.out d hd
    · obtain ⟨d, hd, rfl⟩ := List.mem_map.mp hp
      exact PySem.W.codeHd_of_K KX (c.hd d hd)
    obtain ⟨f1, fd1, m1, FD1, hF⟩ := (Q.law_ok (P := (PySem.Challenge.rw_seathall_k44_votes_for_a_table).prog) (w := w) KB GB c TB).ex
    cases hmg.symm.trans m1
    have efd : fd = fd1 := DL.fd_eq FD FD1
    subst efd
    exact hF
end
