import PyProof.Rows.All
import Wide.All
import OpenK.AllK
import Wide.FinOn
import HandS.Words
import HandS.Property
import HandS.HeadHook1
import HandS.HeadHook2
import KE.KStateDown
import HandS.Head0
import HandS.Head1
import HandS.Head2
import HandS.ForMost
import HandS.TryOnly
import HandS.Exc
import HandS.TupAny
import HandS.TupMul
import HandS.Conv
import HandS.Rev
import HandS.IsInst
import HandS.Deep
import HandS.Wide
import HandS.Style
import HandS.StrMore
import HandS.StrSplit
import HandS.SortInts
import HandS.Flow
import KE.KTupSum
import PyProof.ReprRoads
import PyProof.ReprLen
import PySem.Challenge.RW_untold_k38_whole_papers_tell_the_view
set_option Elab.async false
set_option linter.all false
set_option maxRecDepth 100000
set_option maxHeartbeats 4000000
/-! The text by places. -/
namespace Un
open PySem L2
def top (i : Nat) : Stmt := PySem.Challenge.pw_untold_k38_whole_papers_tell_the_view.main.body.getD i (.Pass ⟨0, 0, 0, 0⟩)
end Un
set_option maxHeartbeats 4000000
/-! the head's facts: each def of the text where it stands, the class of the parties, its properties -/
namespace Un
open PySem L2 PyProof.Rows PySem.Spec
structure DU where
  ad : PySem.W.Frag → Addr
  name : Str
  qual : Str
  st : Stmt
abbrev FV : Type := Option (Str × Str × Arguments × FuncBody × Scope × Addr × List (Str × Addr) × Addr)
def fvOf (o : Option Obj) : FV := match o with
  | some ⟨_, _, .func z, _⟩ => some (z.name, z.qualname, z.params, z.body, z.scope, z.globals, z.closure, z.builtins)
  | _ => none
def DU.due (d : DU) : FV := some (d.name, d.qual, defArgs d.st, .stmts (defBody d.st), defScope d.st, mainGlobals, [], builtinsNs)
def noneV : Value → Bool
  | .none => true
  | _ => false
def fitO (K : PySem.W.Frag) (q : Str) (o : Option Obj) : Bool := match o with
  | some ⟨_, _, .func z, _⟩ => PySem.W.codeIn K z.code q && noneV z.defaults
  | _ => false
def DU.fit (K : PySem.W.Frag) (d : DU) : Bool := PySem.W.keepIn K (.ref (d.ad K)) && fitO K d.qual (K.lookup (d.ad K))
theorem DU.fun_ {K : PySem.W.Frag} {d : DU} (e : fvOf (K.lookup (d.ad K)) = d.due) (c : d.fit K = true) : ∃ fd, Fun K d.name d.qual d.st (d.ad K) fd := by
  obtain ⟨kp, c2⟩ := He.ba c
  cases q : K.lookup (d.ad K) with
  | none => rw [q] at c2; cases c2
  | some o =>
    obtain ⟨oc, od, dt, sl⟩ := o
    rw [q] at c2 e
    cases dt with
    | func z =>
      obtain ⟨z1, z2, z3, z4, z5, z6, z7, z8, z9, z10, z11, z12, z13, z14, z15⟩ := z
      obtain ⟨c3, c4⟩ := He.ba (show (PySem.W.codeIn K z13 d.qual && noneV z8) = true from c2)
      have e8 : z8 = .none := by
        cases z8 with
        | none => rfl
        | _ => cases c4
      have e2 : (some (z1, z2, z3, z4, z5, z6, z7, z15) : FV) = d.due := e
      unfold DU.due at e2
      simp only [Option.some.injEq, Prod.mk.injEq] at e2
      obtain ⟨rfl, rfl, rfl, rfl, rfl, rfl, rfl, rfl⟩ := e2
      subst e8
      exact ⟨_, ⟨oc, od, z9, z10, z11, z12, z13, z14, sl, rfl, q, c3⟩, kp⟩
    | _ => cases c2
/-- the getter of a property of the class at C -/
def pgA (K : PySem.W.Frag) (C : Addr) (m : Str) : Addr := match PySem.W.recIn K (He.ma K C m) "property" with
  | some (.ref g :: _) => g
  | _ => 0
def headRef (g : Addr) : Option (List Value) → Bool
  | some (.ref a :: _) => decide (a = g)
  | _ => false
def isProp (K : PySem.W.Frag) (C : Addr) (m : Str) : Bool := He.eqO (PySem.W.findIn K (.ref C) m) (some (some (.ref (He.ma K C m)))) && (He.eqO (PySem.W.specialIn K (.ref (He.ma K C m)) "__get__") (some (some (.builtin "property.__get__"))) &&
  (decide (PySem.W.takesIn K (.ref (He.ma K C m)) = some true) && headRef (pgA K C m) (PySem.W.recIn K (He.ma K C m) "property")))
theorem headRef_ok {g : Addr} : ∀ {o : Option (List Value)}, headRef g o = true → ∃ r, o = some (.ref g :: r)
  | some (.ref a :: r), h => by
    have e : a = g := of_decide_eq_true h
    exact ⟨r, by rw [e]⟩
theorem prop_ok {K : PySem.W.Frag} {C : Addr} {m : Str} (h : isProp K C m = true) : PropOf K C m (He.ma K C m) (pgA K C m) := by
  obtain ⟨h1, h⟩ := He.ba h
  obtain ⟨h2, h⟩ := He.ba h
  obtain ⟨h3, h4⟩ := He.ba h
  exact ⟨He.eqO_ok h1, He.eqO_ok h2, of_decide_eq_true h3, headRef_ok h4⟩
def saidB (fa : List He.Fa) (fn : List DU) (pr : List (Str × Str)) (K : PySem.W.Frag) : Bool := (fa.all fun f => f.ok K) && ((pr.all fun q => isProp K (He.ga K q.1) q.2) && fn.all fun d => d.fit K)
def saidU (fa : List He.Fa) (fn : List DU) (pr : List (Str × Str)) (K : PySem.W.Frag) : Bool × List FV := (saidB fa fn pr K, fn.map fun d => fvOf (K.lookup (d.ad K)))
def dueU (fn : List DU) : Bool × List FV := (true, fn.map DU.due)
structure Say (fl : List He.Fa) (fn' : List DU) (pl : List (Str × Str)) (K : PySem.W.Frag) : Prop where
  said : saidU fl fn' pl K = dueU fn'
section
variable {fl : List He.Fa} {fn' : List DU} {pl : List (Str × Str)} {K : PySem.W.Frag}
theorem Say.b (y : Say fl fn' pl K) : saidB fl fn' pl K = true := congrArg Prod.fst y.said
theorem Say.fa (y : Say fl fn' pl K) (i : Nat) {f : He.Fa} (h : fl[i]? = some f) : f.ok K = true := List.all_eq_true.mp (He.ba y.b).1 f (List.mem_of_getElem? h)
theorem Say.pr (y : Say fl fn' pl K) (i : Nat) {m : Str × Str} (h : pl[i]? = some m) : isProp K (He.ga K m.1) m.2 = true := List.all_eq_true.mp (He.ba (He.ba y.b).2).1 m (List.mem_of_getElem? h)
theorem Say.fn (y : Say fl fn' pl K) (i : Nat) {d : DU} (h : fn'[i]? = some d) : ∃ fd, Fun K d.name d.qual d.st (d.ad K) fd := by
  have c : d.fit K = true := List.all_eq_true.mp (He.ba (He.ba y.b).2).2 d (List.mem_of_getElem? h)
  have e : (fn'.map fun d => fvOf (K.lookup (d.ad K)))[i]? = (fn'.map DU.due)[i]? := congrArg (fun z : Bool × List FV => z.2[i]?) y.said
  rw [List.getElem?_map, List.getElem?_map, h] at e
  exact DU.fun_ (Option.some.inj e) c
end
def valsU (g : Addr → Option Obj) (d : Addr) : List Addr := match g d with
  | some ⟨_, _, .dict es _, _⟩ => es.toList.filterMap fun e => (match e.val with
    | .ref a => some a
    | _ => none)
  | _ => []
def codeU (g : Addr → Option Obj) (a : Addr) : List Addr := match g a with
  | some ⟨_, _, .func z, _⟩ => (match z.code with
    | .ref c => [a, c]
    | _ => [a])
  | _ => [a]
def propU (g : Addr → Option Obj) (a : Addr) : List Addr := match g a with
  | some ⟨_, _, .fields vs, _⟩ => (match vs.toList with
    | .ref p :: _ => a :: codeU g p
    | _ => [a])
  | _ => codeU g a
def clsU (g : Addr → Option Obj) (a : Addr) : List Addr := match g a with
  | some ⟨_, _, .cls cd, _⟩ => a :: cd.ns :: (valsU g cd.ns).flatMap (propU g)
  | _ => codeU g a
def adU (g : Addr → Option Obj) : List Addr := mainGlobals :: (valsU g mainGlobals).flatMap (clsU g)
def hookV (fl : List He.Fa) (fl2 : List DU) (pl : List (Str × Str)) : PySem.W.Hook where
  α := Bool × List FV
  obs := fun s => saidU fl fl2 pl (He.frG s.heap.get? (adU s.heap.get?))
  val := fun _ => dueU fl2
  says := fun _ h => ∃ K : PySem.W.Frag, K.In h ∧ Say fl fl2 pl K
  of := fun _ _ e => ⟨_, He.frG_in, ⟨e⟩⟩
  keeps := fun _ _ _ z t => let ⟨F, i, c⟩ := z; ⟨F, i.keeps t, c⟩
abbrev faL : List He.Fa := [.free "len", .free "int", .free "tuple", .free "range", .free "reversed", .free "list", .free "str", .free "sum", .free "min", .free "sorted", .free "isinstance", .free "bool", .free "dict", .free "repr", .cls "Party", .glo "Party", .mkr "Party", .noat "Party" "_own", .noat "Party" "_given", .noat "Party" "_drawn", .noat "Party" "_weighed", .noat "Party" "_took", .noat "Party" "_came", .glo "law", .glo "value_at", .glo "power", .glo "inverse", .glo "added", .glo "scaled", .glo "with_root", .glo "roots_at", .glo "bases", .glo "weights", .glo "parties", .glo "shares_of", .glo "shares_sharing", .glo "named", .glo "epoch_of", .glo "sends", .glo "by_rows", .meth "Party" "_all_came", .meth "Party" "input_at", .meth "Party" "coins_at", .meth "Party" "came_from", .meth "Party" "_told", .meth "Party" "_needed", .meth "Party" "_poly", .meth "Party" "_reckoned", .meth "Party" "_joined", .meth "Party" "_share", .meth "Party" "_letters", .glo "is_integer", .meth "Party" "_is_letter", .meth "Party" "take", .glo "lines_of", .glo "number_in", .glo "numbers_in", .glo "checked", .glo "head_of", .glo "read_paper", .glo "on_both_sides", .glo "shares_of_some", .glo "seen_by", .glo "told_to", .glo "item_of", .glo "seen", .glo "_law_at", .glo "_law_raised", .glo "_law_inverse", .glo "_law_weights", .glo "_law_epochs", .glo "_law_shares", .glo "_law_seen", .glo "_law_sends", .glo "_law_coins_of", .glo "_law_poly_sum", .glo "_law_run", .glo "_law_letters", .glo "_law_view", .glo "_law_draw", .glo "_law_pick", .glo "_law_number", .glo "_law_numbers", .glo "_law_few", .glo "_law_turned", .glo "_law_inputs", .glo "_law_coins", .glo "_law_watchers", .glo "_law_program", .glo "_law_cell", .glo "_law_digits", .glo "_law_own", .glo "_law_paper", .glo "_law_same"]
abbrev fnL : List DU := [⟨fun K => He.ga K "value_at", "value_at", "value_at", (top 8)⟩,
  ⟨fun K => He.ga K "power", "power", "power", (top 5)⟩,
  ⟨fun K => He.ga K "inverse", "inverse", "inverse", (top 6)⟩,
  ⟨fun K => He.ga K "added", "added", "added", (top 9)⟩,
  ⟨fun K => He.ga K "scaled", "scaled", "scaled", (top 10)⟩,
  ⟨fun K => He.ga K "with_root", "with_root", "with_root", (top 11)⟩,
  ⟨fun K => He.ga K "roots_at", "roots_at", "roots_at", (top 12)⟩,
  ⟨fun K => He.ga K "bases", "bases", "bases", (top 13)⟩,
  ⟨fun K => He.ga K "weights", "weights", "weights", (top 15)⟩,
  ⟨fun K => He.ga K "parties", "parties", "parties", (top 18)⟩,
  ⟨fun K => He.ga K "shares_of", "shares_of", "shares_of", (top 19)⟩,
  ⟨fun K => He.ga K "shares_sharing", "shares", "shares", (top 20)⟩,
  ⟨fun K => He.ga K "named", "named", "named", (top 23)⟩,
  ⟨fun K => He.ga K "epoch_of", "epoch_of", "epoch_of", (top 24)⟩,
  ⟨fun K => He.ga K "sends", "sends", "sends", (top 26)⟩,
  ⟨fun K => He.ga K "by_rows", "by_rows", "by_rows", (top 35)⟩,
  ⟨fun K => pgA K (He.ga K "Party") "number", "number", "Party.number", (inClass (top 36) 1)⟩,
  ⟨fun K => pgA K (He.ga K "Party") "took", "took", "Party.took", (inClass (top 36) 4)⟩,
  ⟨fun K => He.ma K (He.ga K "Party") "_all_came", "_all_came", "Party._all_came", (inClass (top 36) 8)⟩,
  ⟨fun K => He.ma K (He.ga K "Party") "input_at", "input_at", "Party.input_at", (inClass (top 36) 10)⟩,
  ⟨fun K => He.ma K (He.ga K "Party") "coins_at", "coins_at", "Party.coins_at", (inClass (top 36) 11)⟩,
  ⟨fun K => He.ma K (He.ga K "Party") "came_from", "came_from", "Party.came_from", (inClass (top 36) 12)⟩,
  ⟨fun K => He.ma K (He.ga K "Party") "_told", "_told", "Party._told", (inClass (top 36) 9)⟩,
  ⟨fun K => He.ma K (He.ga K "Party") "_needed", "_needed", "Party._needed", (inClass (top 36) 13)⟩,
  ⟨fun K => He.ma K (He.ga K "Party") "_poly", "_poly", "Party._poly", (inClass (top 36) 14)⟩,
  ⟨fun K => He.ma K (He.ga K "Party") "_reckoned", "_reckoned", "Party._reckoned", (inClass (top 36) 16)⟩,
  ⟨fun K => He.ma K (He.ga K "Party") "_joined", "_joined", "Party._joined", (inClass (top 36) 17)⟩,
  ⟨fun K => He.ma K (He.ga K "Party") "_share", "_share", "Party._share", (inClass (top 36) 15)⟩,
  ⟨fun K => pgA K (He.ga K "Party") "shares", "shares", "Party.shares", (inClass (top 36) 5)⟩,
  ⟨fun K => He.ma K (He.ga K "Party") "_letters", "_letters", "Party._letters", (inClass (top 36) 18)⟩,
  ⟨fun K => pgA K (He.ga K "Party") "made", "made", "Party.made", (inClass (top 36) 6)⟩,
  ⟨fun K => He.ga K "is_integer", "is_integer", "is_integer", (top 17)⟩,
  ⟨fun K => He.ma K (He.ga K "Party") "_is_letter", "_is_letter", "Party._is_letter", (inClass (top 36) 19)⟩,
  ⟨fun K => He.ma K (He.ga K "Party") "take", "take", "Party.take", (inClass (top 36) 20)⟩,
  ⟨fun K => He.ma K (He.ga K "Party") "__init__", "__init__", "Party.__init__", (inClass (top 36) 0)⟩,
  ⟨fun K => He.ga K "lines_of", "lines_of", "lines_of", (top 38)⟩,
  ⟨fun K => He.ga K "number_in", "number_in", "number_in", (top 39)⟩,
  ⟨fun K => He.ga K "numbers_in", "numbers_in", "numbers_in", (top 43)⟩,
  ⟨fun K => He.ga K "checked", "checked", "checked", (top 44)⟩,
  ⟨fun K => He.ga K "head_of", "head_of", "head_of", (top 45)⟩,
  ⟨fun K => He.ga K "read_paper", "read_paper", "read_paper", (top 46)⟩,
  ⟨fun K => He.ga K "on_both_sides", "on_both_sides", "on_both_sides", (top 41)⟩,
  ⟨fun K => He.ga K "shares_of_some", "shares_of_some", "shares_of_some", (top 47)⟩,
  ⟨fun K => He.ga K "seen_by", "seen_by", "seen_by", (top 48)⟩,
  ⟨fun K => He.ga K "told_to", "told_to", "told_to", (top 50)⟩,
  ⟨fun K => He.ga K "item_of", "item_of", "item_of", (top 49)⟩,
  ⟨fun K => He.ga K "seen", "seen", "seen", (top 51)⟩,
  ⟨fun K => He.ga K "_law_at", "_law_at", "_law_at", (top 61)⟩,
  ⟨fun K => He.ga K "_law_raised", "_law_raised", "_law_raised", (top 62)⟩,
  ⟨fun K => He.ga K "_law_inverse", "_law_inverse", "_law_inverse", (top 63)⟩,
  ⟨fun K => He.ga K "_law_weights", "_law_weights", "_law_weights", (top 64)⟩,
  ⟨fun K => He.ga K "_law_epochs", "_law_epochs", "_law_epochs", (top 66)⟩,
  ⟨fun K => He.ga K "_law_shares", "_law_shares", "_law_shares", (top 73)⟩,
  ⟨fun K => He.ga K "_law_seen", "_law_seen", "_law_seen", (top 74)⟩,
  ⟨fun K => He.ga K "_law_sends", "_law_sends", "_law_sends", (top 76)⟩,
  ⟨fun K => He.ga K "_law_coins_of", "_law_coins_of", "_law_coins_of", (top 69)⟩,
  ⟨fun K => He.ga K "_law_poly_sum", "_law_poly_sum", "_law_poly_sum", (top 71)⟩,
  ⟨fun K => He.ga K "_law_run", "_law_run", "_law_run", (top 72)⟩,
  ⟨fun K => He.ga K "_law_letters", "_law_letters", "_law_letters", (top 77)⟩,
  ⟨fun K => He.ga K "_law_view", "_law_view", "_law_view", (top 75)⟩,
  ⟨fun K => He.ga K "_law_draw", "_law_draw", "_law_draw", (top 55)⟩,
  ⟨fun K => He.ga K "_law_pick", "_law_pick", "_law_pick", (top 56)⟩,
  ⟨fun K => He.ga K "_law_number", "_law_number", "_law_number", (top 58)⟩,
  ⟨fun K => He.ga K "_law_numbers", "_law_numbers", "_law_numbers", (top 59)⟩,
  ⟨fun K => He.ga K "_law_few", "_law_few", "_law_few", (top 60)⟩,
  ⟨fun K => He.ga K "_law_turned", "_law_turned", "_law_turned", (top 79)⟩,
  ⟨fun K => He.ga K "_law_inputs", "_law_inputs", "_law_inputs", (top 68)⟩,
  ⟨fun K => He.ga K "_law_coins", "_law_coins", "_law_coins", (top 70)⟩,
  ⟨fun K => He.ga K "_law_watchers", "_law_watchers", "_law_watchers", (top 67)⟩,
  ⟨fun K => He.ga K "_law_program", "_law_program", "_law_program", (top 65)⟩,
  ⟨fun K => He.ga K "_law_cell", "_law_cell", "_law_cell", (top 53)⟩,
  ⟨fun K => He.ga K "_law_digits", "_law_digits", "_law_digits", (top 54)⟩,
  ⟨fun K => He.ga K "_law_own", "_law_own", "_law_own", (top 78)⟩,
  ⟨fun K => He.ga K "_law_paper", "_law_paper", "_law_paper", (top 80)⟩,
  ⟨fun K => He.ga K "_law_same", "_law_same", "_law_same", (top 57)⟩,
  ⟨fun K => He.ga K "law", "law", "law", (top 81)⟩]
abbrev prL : List (Str × Str) := [("Party", "number"), ("Party", "took"), ("Party", "shares"), ("Party", "made")]
end Un
namespace Un
open PySem PySem.W PySem.Calls PyProof.Rows
def nm0 : List PySem.Str := ["_wall", "UntoldError", "BadEntry", "power", "inverse", "value_at", "added", "scaled", "with_root", "roots_at", "bases", "through", "weights", "is_integer", "parties", "shares_of", "shares", "shares_sharing", "named", "epoch_of", "sends", "sets_of", "wrong", "readings", "most_wrong", "read", "read_reading", "by_rows", "Party", "lines_of"]
def nm1 : List PySem.Str := ["number_in", "on_both_sides", "numbers_in", "checked", "head_of", "read_paper", "shares_of_some", "seen_by", "item_of", "told_to", "seen", "_law_cell", "_law_digits", "_law_draw", "_law_pick", "_law_same", "_law_number", "_law_numbers", "_law_few", "_law_at", "_law_raised", "_law_inverse", "_law_weights", "_law_program", "_law_epochs", "_law_watchers", "_law_inputs", "_law_coins_of", "_law_coins", "_law_poly_sum"]
def nm2 : List PySem.Str := ["_law_run", "_law_shares", "_law_seen", "_law_view", "_law_sends", "_law_letters", "_law_own", "_law_turned", "_law_paper"]
def nms : List PySem.Str := nm0 ++ nm1 ++ nm2
abbrev RR : OpenRow := OpenLaw.row PySem.Challenge.rw_untold_k38_whole_papers_tell_the_view
def hdHook : Hook := hookV faL fnL prL
def hdSees (s : SharedT) : Bool × List FV := saidU faL fnL prL (He.frG (HandSHeadRun.getT s) (adU (HandSHeadRun.getT s)))
theorem hdSees_eq (s : SharedT) : hdSees s = hdHook.obs s.abs := by
  have e : HandSHeadRun.getT s = s.abs.heap.get? := funext fun a => HandSHeadRun.getT_eq s a
  unfold hdSees
  rw [e]
  rfl
set_option maxHeartbeats 0 in
theorem top_run (w : World) : HandSHeadRun.RunEq RR (view RR.prog [81]) hdHook hdSees 8000 nms w := by
  intro os
  kernel_rfl
end Un
set_option maxHeartbeats 4000000
/-! Un: data, regions, steps, frames: a small logic of values over the readings. -/
namespace Un
open PySem L2
/-- all that the one heap tells the other tells, too -/
def Sub (H H' : Hp) : Prop := ∀ a o, H a = some o → H' a = some o
theorem Sub.refl (H : Hp) : Sub H H := fun _ _ h => h
theorem Sub.trans {H H1 H2 : Hp} (a : Sub H H1) (b : Sub H1 H2) : Sub H H2 := fun x o h => b x o (a x o h)
theorem Sub.rd {G H : Hp} (s : Sub G H) {a : Addr} {u : HO} (r : Rd G a u) : Rd H a u := by
  rcases r with r | ⟨o, r⟩
  · exact Or.inl (s a _ r)
  · exact Or.inr ⟨o, s a _ r⟩
theorem Sub.sqL {K : PySem.W.Frag} {G H : Hp} (s : Sub G H) {a : Addr} {xs : List V} (r : SqL K G a xs) : SqL K H a xs := by
  rcases r with r | r
  · exact Or.inl (s.rd r)
  · exact Or.inr r
theorem Sub.sqT {K : PySem.W.Frag} {G H : Hp} (s : Sub G H) {a : Addr} {xs : List V} (r : SqT K G a xs) : SqT K H a xs := by
  rcases r with r | r
  · exact Or.inl (s.rd r)
  · exact Or.inr r
theorem Sub.new {H : Hp} {p : Addr} {o : HO} (h : H p = none) : Sub H (upd H p o) := fun a u e => by
  rw [upd_ne (ne_of_none e h)]
  exact e
theorem Sub.upd2 {G H : Hp} {p : Addr} {o : HO} (s : Sub G H) : Sub (upd G p o) (upd H p o) := fun a u e => by
  by_cases h : a = p
  · subst h; rw [upd_same] at e ⊢; exact e
  · rw [upd_ne h] at e ⊢; exact s a u e
theorem Sub.upd1 {G H : Hp} {p : Addr} {o : HO} (s : Sub G H) (h : G p = none) : Sub G (upd H p o) := fun a u e => by
  rw [upd_ne (ne_of_none e h)]
  exact s a u e
theorem Sub.none {G H : Hp} (s : Sub G H) {p : Addr} (h : H p = none) : G p = none := by
  cases e : G p with
  | none => rfl
  | some o => rw [s p o e] at h; cases h
/-- data: what a value is with all that hangs on it -/
inductive D where
  | non
  | bl (b : Bool)
  | int (i : Int)
  | str (s : Str)
  | tup (ds : List D)
  | lst (ds : List D)
  | scr (ns : List Int)
  | dic (kvs : List (Key × D))
  | obj (fs : List (Str × D))
mutual
def Dat (K : PySem.W.Frag) (C : Addr) (G : Hp) : D → V → Prop
  | .non, v => v = .non
  | .bl b, v => v = .bl b
  | .int i, v => v = .int i
  | .str s, v => v = .str s
  | .tup ds, v => ∃ a xs, v = .ref a ∧ SqT K G a xs ∧ Dats K C G ds xs
  | .lst ds, v => ∃ a xs, v = .ref a ∧ G a = some (.lst xs) ∧ Dats K C G ds xs
  | .scr ns, v => ∃ a, v = .ref a ∧ SqL K G a (ns.map V.int)
  | .dic kvs, v => ∃ a ys, v = .ref a ∧ G a = some (.dK ys) ∧ Datk K C G kvs ys
  | .obj fs, v => ∃ a dx ys, v = .ref a ∧ G a = some (.ins C dx ys) ∧ Datf K C G fs ys
def Dats (K : PySem.W.Frag) (C : Addr) (G : Hp) : List D → List V → Prop
  | [], xs => xs = []
  | d :: ds, xs => ∃ x r, xs = x :: r ∧ Dat K C G d x ∧ Dats K C G ds r
def Datk (K : PySem.W.Frag) (C : Addr) (G : Hp) : List (Key × D) → List (Key × V) → Prop
  | [], xs => xs = []
  | (k, d) :: ds, xs => ∃ x r, xs = (k, x) :: r ∧ Dat K C G d x ∧ Datk K C G ds r
def Datf (K : PySem.W.Frag) (C : Addr) (G : Hp) : List (Str × D) → List (Str × V) → Prop
  | [], xs => xs = []
  | (k, d) :: ds, xs => ∃ x r, xs = (k, x) :: r ∧ Dat K C G d x ∧ Datf K C G ds r
end
section
variable {K : PySem.W.Frag} {C : Addr} {G G' : Hp}
mutual
theorem Dat.mono (s : Sub G G') : ∀ {d : D} {v : V}, Dat K C G d v → Dat K C G' d v
  | .non, _, h => by simp only [Dat] at h ⊢; exact h
  | .bl _, _, h => by simp only [Dat] at h ⊢; exact h
  | .int _, _, h => by simp only [Dat] at h ⊢; exact h
  | .str _, _, h => by simp only [Dat] at h ⊢; exact h
  | .tup ds, _, h => by
    simp only [Dat] at h ⊢
    obtain ⟨a, xs, e, q, r⟩ := h
    exact ⟨a, xs, e, s.sqT q, Dats.mono s r⟩
  | .lst ds, _, h => by
    simp only [Dat] at h ⊢
    obtain ⟨a, xs, e, q, r⟩ := h
    exact ⟨a, xs, e, s _ _ q, Dats.mono s r⟩
  | .scr ns, _, h => by
    simp only [Dat] at h ⊢
    obtain ⟨a, e, q⟩ := h
    exact ⟨a, e, s.sqL q⟩
  | .dic kvs, _, h => by
    simp only [Dat] at h ⊢
    obtain ⟨a, xs, e, q, r⟩ := h
    exact ⟨a, xs, e, s _ _ q, Datk.mono s r⟩
  | .obj fs, _, h => by
    simp only [Dat] at h ⊢
    obtain ⟨a, dx, xs, e, q, r⟩ := h
    exact ⟨a, dx, xs, e, s _ _ q, Datf.mono s r⟩
theorem Dats.mono (s : Sub G G') : ∀ {ds : List D} {xs : List V}, Dats K C G ds xs → Dats K C G' ds xs
  | [], _, h => by simp only [Dats] at h ⊢; exact h
  | d :: ds, _, h => by
    simp only [Dats] at h ⊢
    obtain ⟨x, r, e, h1, h2⟩ := h
    exact ⟨x, r, e, Dat.mono s h1, Dats.mono s h2⟩
theorem Datk.mono (s : Sub G G') : ∀ {ds : List (Key × D)} {xs : List (Key × V)}, Datk K C G ds xs → Datk K C G' ds xs
  | [], _, h => by simp only [Datk] at h ⊢; exact h
  | (k, d) :: ds, _, h => by
    simp only [Datk] at h ⊢
    obtain ⟨x, r, e, h1, h2⟩ := h
    exact ⟨x, r, e, Dat.mono s h1, Datk.mono s h2⟩
theorem Datf.mono (s : Sub G G') : ∀ {ds : List (Str × D)} {xs : List (Str × V)}, Datf K C G ds xs → Datf K C G' ds xs
  | [], _, h => by simp only [Datf] at h ⊢; exact h
  | (k, d) :: ds, _, h => by
    simp only [Datf] at h ⊢
    obtain ⟨x, r, e, h1, h2⟩ := h
    exact ⟨x, r, e, Dat.mono s h1, Datf.mono s h2⟩
end
theorem dats_nil : Dats K C G [] [] := by simp only [Dats]
theorem dats_cons {d : D} {ds : List D} {x : V} {xs : List V} (h : Dat K C G d x) (r : Dats K C G ds xs) : Dats K C G (d :: ds) (x :: xs) := by
  simp only [Dats]; exact ⟨x, xs, rfl, h, r⟩
theorem Dats.inv {d : D} {ds : List D} {xs : List V} (h : Dats K C G (d :: ds) xs) : ∃ x r, xs = x :: r ∧ Dat K C G d x ∧ Dats K C G ds r := by
  simpa only [Dats] using h
theorem Dats.inv0 {xs : List V} (h : Dats K C G [] xs) : xs = [] := by simpa only [Dats] using h
theorem Dats.len : ∀ {ds : List D} {xs : List V}, Dats K C G ds xs → ds.length = xs.length
  | [], _, h => by rw [h.inv0]; rfl
  | d :: ds, _, h => by
    obtain ⟨x, r, rfl, _, h2⟩ := h.inv
    rw [List.length_cons, List.length_cons, Dats.len h2]
theorem Dats.get : ∀ {ds : List D} {xs : List V} {i : Nat} {d : D}, Dats K C G ds xs → ds[i]? = some d → ∃ x, xs[i]? = some x ∧ Dat K C G d x
  | [], _, _, _, _, e => by simp at e
  | d :: ds, _, 0, _, h, e => by
    obtain ⟨x, r, rfl, h1, _⟩ := h.inv
    simp at e; subst e
    exact ⟨x, rfl, h1⟩
  | d :: ds, _, i + 1, _, h, e => by
    obtain ⟨x, r, rfl, _, h2⟩ := h.inv
    exact Dats.get (i := i) h2 (by simpa using e)
theorem Dats.app : ∀ {ds es : List D} {xs ys : List V}, Dats K C G ds xs → Dats K C G es ys → Dats K C G (ds ++ es) (xs ++ ys)
  | [], _, _, _, h, k => by rw [h.inv0]; exact k
  | d :: ds, _, _, _, h, k => by
    obtain ⟨x, r, rfl, h1, h2⟩ := h.inv
    exact dats_cons h1 (Dats.app h2 k)
theorem Dats.drop : ∀ {ds : List D} {xs : List V} (n : Nat), Dats K C G ds xs → Dats K C G (ds.drop n) (xs.drop n)
  | _, _, 0, h => h
  | [], _, _ + 1, h => by rw [h.inv0]; exact dats_nil
  | d :: ds, _, n + 1, h => by
    obtain ⟨x, r, rfl, _, h2⟩ := h.inv
    exact Dats.drop n h2
theorem Dats.take : ∀ {ds : List D} {xs : List V} (n : Nat), Dats K C G ds xs → Dats K C G (ds.take n) (xs.take n)
  | _, _, 0, _ => dats_nil
  | [], _, _ + 1, h => by rw [h.inv0]; exact dats_nil
  | d :: ds, _, n + 1, h => by
    obtain ⟨x, r, rfl, h1, h2⟩ := h.inv
    exact dats_cons h1 (Dats.take n h2)
theorem Dats.set : ∀ {ds : List D} {xs : List V} {d : D} {x : V} (n : Nat), Dats K C G ds xs → Dat K C G d x → Dats K C G (ds.set n d) (xs.set n x)
  | [], _, _, _, _, h, _ => by rw [h.inv0]; exact dats_nil
  | e :: ds, _, _, _, 0, h, k => by
    obtain ⟨x, r, rfl, _, h2⟩ := h.inv
    exact dats_cons k h2
  | e :: ds, _, _, _, n + 1, h, k => by
    obtain ⟨x, r, rfl, h1, h2⟩ := h.inv
    exact dats_cons h1 (Dats.set n h2 k)
theorem Dats.rev : ∀ {ds : List D} {xs : List V}, Dats K C G ds xs → Dats K C G ds.reverse xs.reverse
  | [], _, h => by rw [h.inv0]; exact dats_nil
  | d :: ds, _, h => by
    obtain ⟨x, r, rfl, h1, h2⟩ := h.inv
    rw [List.reverse_cons, List.reverse_cons]
    exact Dats.app (Dats.rev h2) (dats_cons h1 dats_nil)
/-- the items of xs[lo:hi] -/
def cutD (xs : List D) (lo hi : Option Int) : List D := (xs.drop (HT.sIx xs.length 0 lo)).take (HT.sIx xs.length xs.length hi - HT.sIx xs.length 0 lo)
theorem Dats.cut {ds : List D} {xs : List V} (h : Dats K C G ds xs) (lo hi : Option Int) : Dats K C G (cutD ds lo hi) (cutV xs lo hi) := by
  unfold cutD cutV
  rw [h.len]
  exact (h.drop _).take _
theorem dat_int {i : Int} : Dat K C G (.int i) (.int i) := by simp only [Dat]
theorem dat_bl {i : Bool} : Dat K C G (.bl i) (.bl i) := by simp only [Dat]
theorem dat_str {i : Str} : Dat K C G (.str i) (.str i) := by simp only [Dat]
theorem dat_non : Dat K C G .non .non := by simp only [Dat]
theorem Dat.int_inv {i : Int} {v : V} (h : Dat K C G (.int i) v) : v = .int i := by simpa only [Dat] using h
theorem Dat.bl_inv {i : Bool} {v : V} (h : Dat K C G (.bl i) v) : v = .bl i := by simpa only [Dat] using h
theorem Dat.str_inv {i : Str} {v : V} (h : Dat K C G (.str i) v) : v = .str i := by simpa only [Dat] using h
theorem Dat.non_inv {v : V} (h : Dat K C G .non v) : v = .non := by simpa only [Dat] using h
theorem Dat.tup_inv {ds : List D} {v : V} (h : Dat K C G (.tup ds) v) : ∃ a xs, v = .ref a ∧ SqT K G a xs ∧ Dats K C G ds xs := by simpa only [Dat] using h
theorem Dat.lst_inv {ds : List D} {v : V} (h : Dat K C G (.lst ds) v) : ∃ a xs, v = .ref a ∧ G a = some (.lst xs) ∧ Dats K C G ds xs := by simpa only [Dat] using h
theorem Dat.dic_inv {kvs : List (Key × D)} {v : V} (h : Dat K C G (.dic kvs) v) : ∃ a ys, v = .ref a ∧ G a = some (.dK ys) ∧ Datk K C G kvs ys := by simpa only [Dat] using h
theorem Dat.obj_inv {fs : List (Str × D)} {v : V} (h : Dat K C G (.obj fs) v) : ∃ a dx ys, v = .ref a ∧ G a = some (.ins C dx ys) ∧ Datf K C G fs ys := by simpa only [Dat] using h
theorem dat_tup {a : Addr} {ds : List D} {xs : List V} (h : SqT K G a xs) (r : Dats K C G ds xs) : Dat K C G (.tup ds) (.ref a) := by
  simp only [Dat]; exact ⟨a, xs, rfl, h, r⟩
theorem Dat.scr_inv {ns : List Int} {v : V} (h : Dat K C G (.scr ns) v) : ∃ a, v = .ref a ∧ SqL K G a (ns.map V.int) := by simpa only [Dat] using h
theorem dat_lst {a : Addr} {ds : List D} {xs : List V} (h : G a = some (.lst xs)) (r : Dats K C G ds xs) : Dat K C G (.lst ds) (.ref a) := by
  simp only [Dat]; exact ⟨a, xs, rfl, h, r⟩
theorem dat_dic {a : Addr} {ds : List (Key × D)} {xs : List (Key × V)} (h : G a = some (.dK xs)) (r : Datk K C G ds xs) : Dat K C G (.dic ds) (.ref a) := by
  simp only [Dat]; exact ⟨a, xs, rfl, h, r⟩
theorem dat_obj {a dx : Addr} {ds : List (Str × D)} {xs : List (Str × V)} (h : G a = some (.ins C dx xs)) (r : Datf K C G ds xs) : Dat K C G (.obj ds) (.ref a) := by
  simp only [Dat]; exact ⟨a, dx, xs, rfl, h, r⟩
/-- ints as data -/
abbrev inz (ns : List Int) : List D := ns.map D.int
theorem Dats.inz : ∀ {ns : List Int} {xs : List V}, Dats K C G (inz ns) xs → xs = ns.map V.int
  | [], _, h => h.inv0
  | n :: ns, _, h => by
    obtain ⟨x, r, rfl, h1, h2⟩ := Dats.inv (d := .int n) (ds := Un.inz ns) h
    rw [h1.int_inv, Dats.inz h2]; rfl
theorem dats_inz : ∀ (ns : List Int), Dats K C G (inz ns) (ns.map V.int)
  | [] => dats_nil
  | n :: ns => dats_cons dat_int (dats_inz ns)
theorem Dats.stz : ∀ {ns : List Str} {xs : List V}, Dats K C G (ns.map D.str) xs → xs = ns.map V.str
  | [], _, h => h.inv0
  | n :: ns, _, h => by
    obtain ⟨x, r, rfl, h1, h2⟩ := Dats.inv (d := .str n) (ds := ns.map D.str) h
    rw [h1.str_inv, Dats.stz h2]; rfl
theorem dats_stz : ∀ (ns : List Str), Dats K C G (ns.map D.str) (ns.map V.str)
  | [] => dats_nil
  | n :: ns => dats_cons dat_str (dats_stz ns)
theorem Datk.len : ∀ {ds : List (Key × D)} {xs : List (Key × V)}, Datk K C G ds xs → ds.length = xs.length
  | [], _, h => by simp only [Datk] at h; rw [h]; rfl
  | (k, d) :: ds, _, h => by
    simp only [Datk] at h
    obtain ⟨x, r, rfl, _, h2⟩ := h
    rw [List.length_cons, List.length_cons, Datk.len h2]
theorem datk_nil : Datk K C G [] [] := by simp only [Datk]
theorem datk_cons {k : Key} {d : D} {ds : List (Key × D)} {x : V} {xs : List (Key × V)} (h : Dat K C G d x) (r : Datk K C G ds xs) : Datk K C G ((k, d) :: ds) ((k, x) :: xs) := by
  simp only [Datk]; exact ⟨x, xs, rfl, h, r⟩
theorem datf_nil : Datf K C G [] [] := by simp only [Datf]
theorem datf_cons {k : Str} {d : D} {ds : List (Str × D)} {x : V} {xs : List (Str × V)} (h : Dat K C G d x) (r : Datf K C G ds xs) : Datf K C G ((k, d) :: ds) ((k, x) :: xs) := by
  simp only [Datf]; exact ⟨x, xs, rfl, h, r⟩
end
/-! ### tables of data -/
def valD (kvs : List (Key × D)) (k : Key) : Option D := (kvs.find? fun kv => decide (kv.1 = k)).map (·.2)
def putD (kvs : List (Key × D)) (k : Key) (d : D) : List (Key × D) :=
  if (kvs.any fun kv => decide (kv.1 = k)) = true then kvs.map (fun kv => if kv.1 = k then (kv.1, d) else kv) else kvs ++ [(k, d)]
section
variable {K : PySem.W.Frag} {C : Addr} {G G' : Hp}
theorem Datk.inv {k : Key} {d : D} {ds : List (Key × D)} {xs : List (Key × V)} (h : Datk K C G ((k, d) :: ds) xs) : ∃ x r, xs = (k, x) :: r ∧ Dat K C G d x ∧ Datk K C G ds r := by
  simpa only [Datk] using h
theorem Datk.inv0 {xs : List (Key × V)} (h : Datk K C G [] xs) : xs = [] := by simpa only [Datk] using h
theorem Datf.inv {k : Str} {d : D} {ds : List (Str × D)} {xs : List (Str × V)} (h : Datf K C G ((k, d) :: ds) xs) : ∃ x r, xs = (k, x) :: r ∧ Dat K C G d x ∧ Datf K C G ds r := by
  simpa only [Datf] using h
theorem Datf.inv0 {xs : List (Str × V)} (h : Datf K C G [] xs) : xs = [] := by simpa only [Datf] using h
theorem valD_pos {p : Key × D} {r : List (Key × D)} {k : Key} (e : p.1 = k) : valD (p :: r) k = some p.2 := by
  unfold valD; rw [List.find?_cons]; simp [e]
theorem valD_neg {p : Key × D} {r : List (Key × D)} {k : Key} (e : ¬ p.1 = k) : valD (p :: r) k = valD r k := by
  unfold valD; rw [List.find?_cons]; simp [e]
/-- what is found at a key -/
def ODat (K : PySem.W.Frag) (C : Addr) (G : Hp) : Option D → Option V → Prop
  | none, o => o = none
  | some d, o => ∃ v, o = some v ∧ Dat K C G d v
theorem Datk.val : ∀ {ds : List (Key × D)} {xs : List (Key × V)} (k : Key), Datk K C G ds xs → ODat K C G (valD ds k) (valV xs k)
  | [], _, k, h => by rw [h.inv0]; rfl
  | (j, d) :: ds, _, k, h => by
    obtain ⟨x, r, rfl, h1, h2⟩ := h.inv
    by_cases e : j = k
    · rw [valD_pos (p := (j, d)) e, valV_pos (p := (j, x)) e]; exact ⟨x, rfl, h1⟩
    · rw [valD_neg (p := (j, d)) e, valV_neg (p := (j, x)) e]; exact Datk.val k h2
theorem Datk.any : ∀ {ds : List (Key × D)} {xs : List (Key × V)} (k : Key), Datk K C G ds xs → (ds.any fun kv => decide (kv.1 = k)) = xs.any fun kv => decide (kv.1 = k)
  | [], _, k, h => by rw [h.inv0]; rfl
  | (j, d) :: ds, _, k, h => by
    obtain ⟨x, r, rfl, h1, h2⟩ := h.inv
    rw [List.any_cons, List.any_cons, Datk.any k h2]
theorem Datk.repl {d : D} {v : V} (hv : Dat K C G d v) (k : Key) : ∀ {ds : List (Key × D)} {xs : List (Key × V)}, Datk K C G ds xs →
    Datk K C G (ds.map fun kv => if kv.1 = k then (kv.1, d) else kv) (xs.map fun kv => if kv.1 = k then (kv.1, v) else kv)
  | [], _, h => by rw [h.inv0]; exact datk_nil
  | (j, e) :: ds, _, h => by
    obtain ⟨x, r, rfl, h1, h2⟩ := h.inv
    rw [List.map_cons, List.map_cons]
    by_cases q : j = k
    · rw [if_pos (show ((j, e) : Key × D).1 = k from q), if_pos (show ((j, x) : Key × V).1 = k from q)]; exact datk_cons hv (Datk.repl hv k h2)
    · rw [if_neg (show ¬ ((j, e) : Key × D).1 = k from q), if_neg (show ¬ ((j, x) : Key × V).1 = k from q)]; exact datk_cons h1 (Datk.repl hv k h2)
theorem Datk.snoc {d : D} {v : V} (hv : Dat K C G d v) (k : Key) : ∀ {ds : List (Key × D)} {xs : List (Key × V)}, Datk K C G ds xs → Datk K C G (ds ++ [(k, d)]) (xs ++ [(k, v)])
  | [], _, h => by rw [h.inv0]; exact datk_cons hv datk_nil
  | (j, e) :: ds, _, h => by
    obtain ⟨x, r, rfl, h1, h2⟩ := h.inv
    exact datk_cons h1 (Datk.snoc hv k h2)
theorem Datk.put {d : D} {v : V} {ds : List (Key × D)} {xs : List (Key × V)} (h : Datk K C G ds xs) (k : Key) (hv : Dat K C G d v) : Datk K C G (putD ds k d) (putK xs k v) := by
  unfold putD putK
  rw [h.any k]
  split
  · exact h.repl hv k
  · exact h.snoc hv k
theorem Datf.look : ∀ {ds : List (Str × D)} {xs : List (Str × V)} {f : Str} {d : D}, Datf K C G ds xs → ds.lookup f = some d → ∃ v, xs.lookup f = some v ∧ Dat K C G d v
  | [], _, _, _, _, e => by simp at e
  | (j, d) :: ds, _, f, d', h, e => by
    obtain ⟨x, r, rfl, h1, h2⟩ := h.inv
    rw [List.lookup_cons] at e ⊢
    cases q : f == j with
    | true => simp only [q] at e ⊢; cases e; exact ⟨x, rfl, h1⟩
    | false => simp only [q] at e ⊢; exact Datf.look h2 e
theorem Datf.none : ∀ {ds : List (Str × D)} {xs : List (Str × V)} {f : Str}, Datf K C G ds xs → ds.lookup f = none → xs.lookup f = none
  | [], _, _, h, _ => by rw [h.inv0]; rfl
  | (j, d) :: ds, _, f, h, e => by
    obtain ⟨x, r, rfl, h1, h2⟩ := h.inv
    rw [List.lookup_cons] at e ⊢
    cases q : f == j with
    | true => simp only [q] at e; cases e
    | false => simp only [q] at e ⊢; exact Datf.none h2 e
end
/-! ### steps, frames -/
/-- a frame: the class of the parties, what may be changed by others (M, of which I is kept), the region and the heap at the entry -/
structure Fm where
  C : Addr
  M : Addr → Prop
  I : Hp → Hp → Prop
  keep : ∀ G G' H H', Sub G G' → (∀ a, M a → H' a = H a) → I G H → I G' H'
  G0 : Hp
  H0 : Hp
structure Step (f : Fm) (G H G' H' : Hp) : Prop where
  gg : Sub G G'
  gh : Sub G' H'
  rh : ∀ a o, ¬ f.M a → H a = some o → H' a = some o
  rm : ∀ a, H a ≠ none → H' a ≠ none
  fr : ∀ a, H a ≠ none → G' a ≠ none → G a ≠ none
  inv : f.I G H → f.I G' H'
theorem Step.trans {f : Fm} {G H G1 H1 G2 H2 : Hp} (s : Step f G H G1 H1) (t : Step f G1 H1 G2 H2) : Step f G H G2 H2 where
  gg := s.gg.trans t.gg
  gh := t.gh
  rh := fun a o m h => t.rh a o m (s.rh a o m h)
  rm := fun a h => t.rm a (s.rm a h)
  fr := fun a h h2 => s.fr a h (t.fr a (s.rm a h) h2)
  inv := fun i => t.inv (s.inv i)
theorem Step.refl {f : Fm} {G H : Hp} (gh : Sub G H) : Step f G H G H := ⟨Sub.refl G, gh, fun _ _ _ h => h, fun _ h => h, fun _ _ h => h, fun i => i⟩
theorem ne_none {H : Hp} {a : Addr} {o : HO} (h : H a = some o) : H a ≠ none := by rw [h]; exact fun z => by cases z
/-- a new object, laid into the region -/
theorem Step.newG {f : Fm} {G H : Hp} {p : Addr} {o : HO} (gh : Sub G H) (hp : H p = none) (hM : ∀ a, f.M a → H a ≠ none) : Step f G H (upd G p o) (upd H p o) where
  gg := Sub.new (gh.none hp)
  gh := gh.upd2
  rh := fun a u _ h => by rw [upd_ne (ne_of_none h hp)]; exact h
  rm := fun a h => by
    by_cases e : a = p
    · subst e; exact absurd hp h
    · rw [upd_ne e]; exact h
  fr := fun a h h2 => by
    by_cases e : a = p
    · subst e; exact absurd hp h
    · rw [upd_ne e] at h2; exact h2
  inv := f.keep _ _ _ _ (Sub.new (gh.none hp)) fun a m => upd_ne fun e => hM a m (by rw [e]; exact hp)
/-- a new object beside the region -/
theorem Step.new {f : Fm} {G H : Hp} {p : Addr} {o : HO} (gh : Sub G H) (hp : H p = none) (hM : ∀ a, f.M a → H a ≠ none) : Step f G H G (upd H p o) where
  gg := Sub.refl G
  gh := gh.upd1 (gh.none hp)
  rh := fun a u _ h => by rw [upd_ne (ne_of_none h hp)]; exact h
  rm := fun a h => by
    by_cases e : a = p
    · subst e; exact absurd hp h
    · rw [upd_ne e]; exact h
  fr := fun a h h2 => h2
  inv := f.keep _ _ _ _ (Sub.refl G) fun a m => upd_ne fun e => hM a m (by rw [e]; exact hp)
/-- what stands in a slot: nothing known, data, a list or a dict of this frame's own -/
inductive Sl where
  | no
  | dat (d : D)
  | own (ds : List D)
  | ownd (kvs : List (Key × D))
  | pin (a : Addr)
def SlOk (K : PySem.W.Frag) (f : Fm) (G H : Hp) (o : Option V) : Sl → Prop
  | .no => True
  | .dat d => ∃ v, o = some v ∧ Dat K f.C G d v
  | .own ds => ∃ l xs, o = some (.ref l) ∧ H l = some (.lst xs) ∧ Dats K f.C G ds xs ∧ G l = none ∧ f.H0 l = none ∧ ¬ f.M l
  | .pin a => o = some (V.ref a)
  | .ownd kvs => ∃ l xs, o = some (.ref l) ∧ H l = some (.dK xs) ∧ Datk K f.C G kvs xs ∧ G l = none ∧ f.H0 l = none ∧ ¬ f.M l
def isOwn : Sl → Bool
  | .own _ => true
  | .ownd _ => true
  | _ => false
def sAt (σ : St) (i : Nat) : Option V := σ.getD i none
def dAt (δ : List Sl) (i : Nat) : Sl := δ.getD i .no
structure Rep (K : PySem.W.Frag) (f : Fm) (σ : St) (δ : List Sl) (G H : Hp) : Prop where
  gh : Sub G H
  inv : f.I G H
  mM : ∀ a, f.M a → G a = none ∧ H a ≠ none
  mM0 : ∀ a, f.M a → f.H0 a ≠ none
  st : Step f f.G0 f.H0 G H
  len : σ.length = δ.length
  slot : ∀ i, SlOk K f G H (sAt σ i) (dAt δ i)
  sep : ∀ i j l, isOwn (dAt δ i) = true → isOwn (dAt δ j) = true → sAt σ i = some (.ref l) → sAt σ j = some (.ref l) → i = j
theorem SlOk.step {K : PySem.W.Frag} {f : Fm} {G H G' H' : Hp} {o : Option V} (t : Step f G H G' H') : ∀ {s : Sl}, SlOk K f G H o s → SlOk K f G' H' o s
  | .no, _ => True.intro
  | .dat d, h => by
    obtain ⟨v, e, h⟩ := h
    exact ⟨v, e, h.mono t.gg⟩
  | .own ds, h => by
    obtain ⟨l, xs, e, h1, h2, h3, h4, h5⟩ := h
    refine ⟨l, xs, e, t.rh _ _ h5 h1, h2.mono t.gg, ?_, h4, h5⟩
    cases q : G' l with
    | none => rfl
    | some o => exact absurd h3 (t.fr l (ne_none h1) (ne_none q))
  | .pin a, h => h
  | .ownd ds, h => by
    obtain ⟨l, xs, e, h1, h2, h3, h4, h5⟩ := h
    refine ⟨l, xs, e, t.rh _ _ h5 h1, h2.mono t.gg, ?_, h4, h5⟩
    cases q : G' l with
    | none => rfl
    | some o => exact absurd h3 (t.fr l (ne_none h1) (ne_none q))
theorem Rep.step {K : PySem.W.Frag} {f : Fm} {σ : St} {δ : List Sl} {G H G' H' : Hp} (r : Rep K f σ δ G H) (t : Step f G H G' H') : Rep K f σ δ G' H' where
  gh := t.gh
  inv := t.inv r.inv
  mM := fun a m => by
    obtain ⟨h1, h2⟩ := r.mM a m
    refine ⟨?_, t.rm a h2⟩
    cases q : G' a with
    | none => rfl
    | some o => exact absurd h1 (t.fr a h2 (ne_none q))
  mM0 := r.mM0
  st := r.st.trans t
  len := r.len
  slot := fun i => (r.slot i).step t
  sep := r.sep
theorem Rep.hM {K : PySem.W.Frag} {f : Fm} {σ : St} {δ : List Sl} {G H : Hp} (r : Rep K f σ δ G H) : ∀ a, f.M a → H a ≠ none := fun a m => (r.mM a m).2
theorem Rep.stepNewG {K : PySem.W.Frag} {f : Fm} {σ : St} {δ : List Sl} {G H : Hp} {p : Addr} {o : HO} (r : Rep K f σ δ G H) (hp : H p = none) : Step f G H (upd G p o) (upd H p o) := Step.newG r.gh hp r.hM
theorem Rep.stepNew {K : PySem.W.Frag} {f : Fm} {σ : St} {δ : List Sl} {G H : Hp} {p : Addr} {o : HO} (r : Rep K f σ δ G H) (hp : H p = none) : Step f G H G (upd H p o) := Step.new r.gh hp r.hM
theorem sAt_some {σ : St} {i : Nat} {v : V} (h : sAt σ i = some v) : σ[i]? = some (some v) := by
  unfold sAt at h
  rw [List.getD_eq_getElem?_getD] at h
  cases e : σ[i]? with
  | none => rw [e] at h; simp at h
  | some o => rw [e] at h; simp at h; rw [h]
theorem sAt_set {σ : St} {i j : Nat} {o : Option V} (h : i < σ.length) : sAt (σ.set i o) j = if i = j then o else sAt σ j := by
  unfold sAt
  simp only [List.getD_eq_getElem?_getD, List.getElem?_set]
  by_cases e : i = j
  · subst e; simp [h]
  · simp [e]
theorem dAt_set {δ : List Sl} {i j : Nat} {o : Sl} (h : i < δ.length) : dAt (δ.set i o) j = if i = j then o else dAt δ j := by
  unfold dAt
  simp only [List.getD_eq_getElem?_getD, List.getElem?_set]
  by_cases e : i = j
  · subst e; simp [h]
  · simp [e]
/-- data put into a slot -/
theorem Rep.setDat {K : PySem.W.Frag} {f : Fm} {σ : St} {δ : List Sl} {G H : Hp} {i : Nat} {v : V} {d : D} (r : Rep K f σ δ G H) (hi : i < δ.length) (h : Dat K f.C G d v) : Rep K f (σ.set i (some v)) (δ.set i (.dat d)) G H where
  gh := r.gh
  inv := r.inv
  mM := r.mM
  mM0 := r.mM0
  st := r.st
  len := by rw [List.length_set, List.length_set, r.len]
  slot := fun j => by
    rw [sAt_set (by rw [r.len]; exact hi), dAt_set hi]
    by_cases e : i = j
    · rw [if_pos e, if_pos e]; exact ⟨v, rfl, h⟩
    · rw [if_neg e, if_neg e]; exact r.slot j
  sep := fun j k l h1 h2 h3 h4 => by
    rw [dAt_set hi] at h1 h2
    rw [sAt_set (by rw [r.len]; exact hi)] at h3 h4
    by_cases e : i = j
    · rw [if_pos e] at h1; cases h1
    · by_cases e' : i = k
      · rw [if_pos e'] at h2; cases h2
      · rw [if_neg e] at h1 h3; rw [if_neg e'] at h2 h4
        exact r.sep j k l h1 h2 h3 h4
/-- where an own thing stands, others do not -/
theorem Rep.fresh {K : PySem.W.Frag} {f : Fm} {σ : St} {δ : List Sl} {G H : Hp} {j : Nat} {p : Addr} (r : Rep K f σ δ G H) (hp : H p = none) (h1 : isOwn (dAt δ j) = true) (h2 : sAt σ j = some (.ref p)) : False := by
  have s := r.slot j
  cases e : dAt δ j with
  | no => rw [e] at h1; cases h1
  | dat d => rw [e] at h1; cases h1
  | pin a => rw [e] at h1; cases h1
  | own ds =>
    rw [e] at s
    obtain ⟨l, xs, q, q1, _⟩ := s
    rw [h2] at q; cases q
    rw [hp] at q1; cases q1
  | ownd ds =>
    rw [e] at s
    obtain ⟨l, xs, q, q1, _⟩ := s
    rw [h2] at q; cases q
    rw [hp] at q1; cases q1
/-- an own thing put into a slot: H is the heap ahead of it, H' the heap with it -/
theorem Rep.setOwn {K : PySem.W.Frag} {f : Fm} {σ : St} {δ : List Sl} {G H G' H' : Hp} {i : Nat} {p : Addr} {s : Sl} (r : Rep K f σ δ G H) (t : Step f G H G' H') (hi : i < δ.length) (hp : H p = none)
    (h : SlOk K f G' H' (some (.ref p)) s) : Rep K f (σ.set i (some (.ref p))) (δ.set i s) G' H' where
  gh := t.gh
  inv := t.inv r.inv
  mM := (r.step t).mM
  mM0 := r.mM0
  st := r.st.trans t
  len := by rw [List.length_set, List.length_set, r.len]
  slot := fun j => by
    rw [sAt_set (by rw [r.len]; exact hi), dAt_set hi]
    by_cases e : i = j
    · rw [if_pos e, if_pos e]; exact h
    · rw [if_neg e, if_neg e]; exact (r.slot j).step t
  sep := fun j k l h1 h2 h3 h4 => by
    rw [dAt_set hi] at h1 h2
    rw [sAt_set (by rw [r.len]; exact hi)] at h3 h4
    by_cases e : i = j
    · by_cases e' : i = k
      · rw [← e, ← e']
      · rw [if_neg e'] at h2 h4; rw [if_pos e] at h3
        cases h3
        exact (r.fresh hp h2 h4).elim
    · by_cases e' : i = k
      · rw [if_pos e'] at h4; rw [if_neg e] at h1 h3
        cases h4
        exact (r.fresh hp h1 h3).elim
      · rw [if_neg e] at h1 h3; rw [if_neg e'] at h2 h4
        exact r.sep j k l h1 h2 h3 h4
/-- an own thing changed -/
theorem Rep.chOwn {K : PySem.W.Frag} {f : Fm} {σ : St} {δ : List Sl} {G H : Hp} {i : Nat} {p : Addr} {s : Sl} {o : HO} (r : Rep K f σ δ G H) (hi : i < δ.length) (ho : isOwn (dAt δ i) = true) (hσ : sAt σ i = some (.ref p))
    (hG : G p = none) (h0 : f.H0 p = none) (hM : ¬ f.M p) (hs : isOwn s = true) (h : SlOk K f G (upd H p o) (some (.ref p)) s) : Rep K f σ (δ.set i s) G (upd H p o) where
  gh := r.gh.upd1 hG
  inv := f.keep _ _ _ _ (Sub.refl G) (fun a m => upd_ne fun e => hM (e ▸ m)) r.inv
  mM := fun a m => ⟨(r.mM a m).1, by
    have ne : a ≠ p := fun e => hM (e ▸ m)
    rw [upd_ne ne]; exact (r.mM a m).2⟩
  mM0 := r.mM0
  st := {
    gg := r.st.gg
    gh := r.gh.upd1 hG
    rh := fun a u m q => by
      rw [upd_ne (ne_of_none q h0)]
      exact r.st.rh a u m q
    rm := fun a q => by
      by_cases e : a = p
      · subst e; rw [upd_same]; exact fun z => by cases z
      · rw [upd_ne e]; exact r.st.rm a q
    fr := r.st.fr
    inv := fun i => f.keep _ _ _ _ (Sub.refl G) (fun a m => upd_ne fun e => hM (e ▸ m)) (r.st.inv i) }
  len := by rw [List.length_set, r.len]
  slot := fun j => by
    rw [dAt_set hi]
    by_cases e : i = j
    · rw [if_pos e, ← e, hσ]; exact h
    · rw [if_neg e]
      have q := r.slot j
      have ne : ∀ l, isOwn (dAt δ j) = true → sAt σ j = some (.ref l) → l ≠ p := fun l h1 h2 z => e (r.sep i j l ho h1 (z ▸ hσ) h2)
      cases eq : dAt δ j with
      | no => exact True.intro
      | dat d => rw [eq] at q; exact q
      | pin a => rw [eq] at q; exact q
      | own ds =>
        rw [eq] at q
        obtain ⟨l, xs, q0, q1, q2⟩ := q
        exact ⟨l, xs, q0, by rw [upd_ne (ne l (by rw [eq]; rfl) q0)]; exact q1, q2⟩
      | ownd ds =>
        rw [eq] at q
        obtain ⟨l, xs, q0, q1, q2⟩ := q
        exact ⟨l, xs, q0, by rw [upd_ne (ne l (by rw [eq]; rfl) q0)]; exact q1, q2⟩
  sep := fun j k l h1 h2 h3 h4 => by
    rw [dAt_set hi] at h1 h2
    refine r.sep j k l ?_ ?_ h3 h4
    · by_cases e : i = j
      · rw [← e]; exact ho
      · rw [if_neg e] at h1; exact h1
    · by_cases e : i = k
      · rw [← e]; exact ho
      · rw [if_neg e] at h2; exact h2
/-- forgetting -/
theorem Rep.weak {K : PySem.W.Frag} {f : Fm} {σ σ' : St} {δ δ' : List Sl} {G H : Hp} (r : Rep K f σ δ G H) (hl : σ'.length = δ'.length) (h : ∀ i, dAt δ' i = .no ∨ (sAt σ' i = sAt σ i ∧ dAt δ' i = dAt δ i)) : Rep K f σ' δ' G H where
  gh := r.gh
  inv := r.inv
  mM := r.mM
  mM0 := r.mM0
  st := r.st
  len := hl
  slot := fun i => by
    rcases h i with e | ⟨e1, e2⟩
    · rw [e]; exact True.intro
    · rw [e1, e2]; exact r.slot i
  sep := fun i j l h1 h2 h3 h4 => by
    rcases h i with e | ⟨e1, e2⟩
    · rw [e] at h1; cases h1
    · rcases h j with e' | ⟨e3, e4⟩
      · rw [e'] at h2; cases h2
      · exact r.sep i j l (e2 ▸ h1) (e4 ▸ h2) (e1 ▸ h3) (e3 ▸ h4)
end Un
set_option maxHeartbeats 4000000
/-! Un: the judgements over data. -/
namespace Un
open PySem L2
section
variable {X : Cx}
theorem pe_imp {e : Expr} {t t' : TE} (h : PE X e t) (k : ∀ σ H Q, t' σ H Q → t σ H Q) : PE X e t' := ⟨fun pins s σ H Q I q => h.run pins s σ H Q I (k σ H Q q)⟩
theorem pt_imp {e : Expr} {t t' : TT} (h : PT X e t) (k : ∀ σ H Q, t' σ H Q → t σ H Q) : PT X e t' := ⟨fun pins s σ H Q I q => h.run pins s σ H Q I (k σ H Q q)⟩
theorem pw_imp {e : Expr} {t t' : TT} (h : PW X e t) (k : ∀ σ H Q, t' σ H Q → t σ H Q) : PW X e t' := ⟨fun w pins s σ H Q I q => h.run w pins s σ H Q I (k σ H Q q)⟩
theorem pa_imp {es : List Expr} {t t' : TA} (h : PA X es t) (k : ∀ σ H Q, t' σ H Q → t σ H Q) : PA X es t' := ⟨fun p pins s σ H Q I q => h.run p pins s σ H Q I (k σ H Q q)⟩
theorem ps_imp {st : Stmt} {t t' : TS} (h : PS X st t) (k : ∀ Dn σ H, t' Dn σ H → t Dn σ H) : PS X st t' := ⟨fun pins s σ H Dn I q => h.run pins s σ H Dn I (k Dn σ H q)⟩
theorem pss_imp {st : List Stmt} {t t' : TS} (h : PSs X st t) (k : ∀ Dn σ H, t' Dn σ H → t Dn σ H) : PSs X st t' := ⟨fun pins s σ H Dn I q => h.run pins s σ H Dn I (k Dn σ H q)⟩
theorem pi_imp {tg e : Expr} {t t' : TI} (h : PI X tg e t) (k : ∀ σ H R, t' σ H R → t σ H R) : PI X tg e t' := ⟨fun pins s σ H Q I q => h.run pins s σ H Q I (k σ H Q q)⟩
theorem po_imp {e : Option Expr} {t t' : TO} (h : PO X e t) (k : ∀ σ H Q, t' σ H Q → t σ H Q) : PO X e t' := ⟨fun pins s σ H Q I q => h.run pins s σ H Q I (k σ H Q q)⟩
theorem pts_imp {e : List Expr} {t t' : TT} (h : PTs X e t) (k : ∀ σ H Q, t' σ H Q → t σ H Q) : PTs X e t' := ⟨fun pins s σ H Q I q => h.run pins s σ H Q I (k σ H Q q)⟩
theorem pe_ex {α : Type} {e : Expr} {p : α → Prop} {t : α → TE} (h : ∀ a, p a → PE X e (t a)) : PE X e (fun σ H Q => ∃ a, p a ∧ t a σ H Q) := ⟨fun pins s σ H Q I ⟨a, ha, q⟩ => (h a ha).run pins s σ H Q I q⟩
theorem pts_ex {α : Type} {e : List Expr} {p : α → Prop} {t : α → TT} (h : ∀ a, p a → PTs X e (t a)) : PTs X e (fun σ H Q => ∃ a, p a ∧ t a σ H Q) := ⟨fun pins s σ H Q I ⟨a, ha, q⟩ => (h a ha).run pins s σ H Q I q⟩
theorem pw_given {e : Expr} {p : Prop} {t : TT} (h : p → PW X e t) : PW X e (fun σ H Q => p ∧ t σ H Q) := ⟨fun w pins s σ H Q I ⟨ha, q⟩ => (h ha).run w pins s σ H Q I q⟩
theorem pe_given {e : Expr} {p : Prop} {t : TE} (h : p → PE X e t) : PE X e (fun σ H Q => p ∧ t σ H Q) := ⟨fun pins s σ H Q I ⟨ha, q⟩ => (h ha).run pins s σ H Q I q⟩
theorem pss_given {e : List Stmt} {p : Prop} {t : TS} (h : p → PSs X e t) : PSs X e (fun Dn σ H => p ∧ t Dn σ H) := ⟨fun pins s σ H Q I ⟨ha, q⟩ => (h ha).run pins s σ H Q I q⟩
theorem pss_ex {α : Type} {st : List Stmt} {p : α → Prop} {t : α → TS} (h : ∀ a, p a → PSs X st (t a)) : PSs X st (fun Dn σ H => ∃ a, p a ∧ t a Dn σ H) := ⟨fun pins s σ H Q I ⟨a, ha, q⟩ => (h a ha).run pins s σ H Q I q⟩
end
/-! ### readings -/
section
variable (K : PySem.W.Frag) (f : Fm) (δ : List Sl)
/-- some data of which P holds -/
def tP (P : D → Prop) : TE := fun σ H Q => ∃ G, Rep K f σ δ G H ∧ ∀ v d G' H', Step f G H G' H' → P d → Dat K f.C G' d v → Q v H'
/-- this data -/
abbrev tD (d : D) : TE := tP K f δ fun e => e = d
def tAP (P : List D → Prop) : TA := fun σ H Q => ∃ G, Rep K f σ δ G H ∧ ∀ vs ds G' H', Step f G H G' H' → P ds → Dats K f.C G' ds vs → Q vs H'
abbrev tL (ds : List D) : TA := tAP K f δ fun e => e = ds
/-- a new list -/
def tNP (P : List D → Prop) : TE := fun σ H Q => ∃ G, Rep K f σ δ G H ∧ ∀ p xs ds G' H', Step f G H G' H' → H p = none → G' p = none → ¬ f.M p → H' p = some (.lst xs) → P ds → Dats K f.C G' ds xs → Q (.ref p) H'
abbrev tN (ds : List D) : TE := tNP K f δ fun e => e = ds
/-- a list or a tuple as an operand -/
def tS (ds : List D) : TE := fun σ H Q => ∃ G, Rep K f σ δ G H ∧ ∀ a xs G' H', Step f G H G' H' → (∀ G2 H2, Step f G' H' G2 H2 → SqL K H2 a xs ∨ SqT K H2 a xs) → Dats K f.C G' ds xs → Q (.ref a) H'
/-- a list as an operand -/
def tSl (ds : List D) : TE := fun σ H Q => ∃ G, Rep K f σ δ G H ∧ ∀ a xs G' H', Step f G H G' H' → (∀ G2 H2, Step f G' H' G2 H2 → SqL K H2 a xs) → Dats K f.C G' ds xs → Q (.ref a) H'
def tBo (b : Bool) : TT := fun σ H Q => ∃ G, Rep K f σ δ G H ∧ ∀ G' H', Step f G H G' H' → Q b H'
def tOp (o : Option Int) : TO := fun σ H Q => ∃ G, Rep K f σ δ G H ∧ ∀ G' H', Step f G H G' H' → Q o H'
/-- what a loop draws: data -/
def Iter (J : It) (ds : List D) (S : Hp → Hp → Prop) : Prop := ∀ G' H', S G' H' → (∀ (i : Nat) d, ds[i]? = some d → J.go i H' ∧ ∀ x H3, J.yld i H' x H3 → H3 = H' ∧ Dat K f.C G' d x) ∧ J.stop ds.length H'
def tI (P : List D → Prop) : TI := fun σ H R => ∃ G, Rep K f σ δ G H ∧ ∀ J ds G' H', Step f G H G' H' → P ds → Iter K f J ds (fun G2 H2 => Sub G' G2 ∧ Sub G2 H2) → R J H'
def tIs (P : List D → Prop) : TI := fun σ H R => ∃ G, Rep K f σ δ G H ∧ ∀ J ds G' H', Step f G H G' H' → P ds → Iter K f J ds (fun G2 H2 => Step f G' H' G2 H2) → R J H'
/-- a statement: from the slots δ to slots of which N holds, or a return of which R holds -/
def tX (N : List Sl → Prop) (R : V → Hp → Prop) : TS := fun Dn σ H => ∃ G, Rep K f σ δ G H ∧ (∀ δ' σ' G' H', N δ' → Sub G G' → Rep K f σ' δ' G' H' → Dn.nx σ' H') ∧ (∀ v H', R v H' → Dn.rt v H')
def retP (P : D → Prop) : V → Hp → Prop := fun v H' => ∃ d G', Step f f.G0 f.H0 G' H' ∧ P d ∧ Dat K f.C G' d v
abbrev retD (d : D) : V → Hp → Prop := retP K f fun e => e = d
def retNP (P : List D → Prop) : V → Hp → Prop := fun v H' => ∃ p xs ds G', v = .ref p ∧ Step f f.G0 f.H0 G' H' ∧ f.H0 p = none ∧ G' p = none ∧ ¬ f.M p ∧ H' p = some (.lst xs) ∧ P ds ∧ Dats K f.C G' ds xs
abbrev retN (ds : List D) : V → Hp → Prop := retNP K f fun e => e = ds
end
/-! ### names, constants -/
section
variable {X : Cx} {f : Fm} {δ : List Sl}
theorem x_of {e : Expr} {i : Nat} {d : D} (h : PE X e (tVar i)) (hd : dAt δ i = .dat d) : PE X e (tD X.K f δ d) := pe_imp h fun σ H Q ⟨G, r, q⟩ => by
  have s := r.slot i
  rw [hd] at s
  obtain ⟨v, e1, e2⟩ := s
  exact ⟨v, sAt_some e1, q v d G H (Step.refl r.gh) rfl e2⟩
theorem x_c {e : Expr} {v : V} {d : D} (h : PE X e (tC v)) (hd : ∀ G, Dat X.K f.C G d v) : PE X e (tD X.K f δ d) := pe_imp h fun σ H Q ⟨G, r, q⟩ => q v d G H (Step.refl r.gh) rfl (hd G)
theorem x_int {i : Int} {j pos} : PE X (.Constant (.int i) j pos) (tD X.K f δ (.int i)) := x_c pe_int fun _ => dat_int
theorem x_str {i : Str} {j pos} : PE X (.Constant (.str i) j pos) (tD X.K f δ (.str i)) := x_c pe_str fun _ => dat_str
theorem x_non {j pos} : PE X (.Constant .none j pos) (tD X.K f δ .non) := x_c pe_non fun _ => dat_non
theorem x_bl {b : Bool} {j pos} : PE X (.Constant (.bool b) j pos) (tD X.K f δ (.bl b)) := x_c pe_bl fun _ => dat_bl
theorem x_weak {e : Expr} {P P' : D → Prop} (h : PE X e (tP X.K f δ P)) (k : ∀ d, P d → P' d) : PE X e (tP X.K f δ P') := pe_imp h fun σ H Q ⟨G, r, q⟩ => ⟨G, r, fun v d G' H' t p z => q v d G' H' t (k d p) z⟩
theorem x_eq {e : Expr} {d d' : D} (h : PE X e (tD X.K f δ d)) (k : d = d') : PE X e (tD X.K f δ d') := k ▸ h
/-! ### two-place operations -/
/-- by data -/
def RD (K : PySem.W.Frag) (f : Fm) (r : R2) (d1 d2 d : D) : Prop := ∀ σ δ G H x y Q, Rep K f σ δ G H → Dat K f.C G d1 x → Dat K f.C G d2 y → (∀ v G' H', Step f G H G' H' → Dat K f.C G' d v → Q v H') → r x y H Q
theorem op_read {ta tb : TE} {P1 P2 P : D → Prop} {r : R2} {σ : L2.St} {H : Hp} {Q : VK} (hr : ∀ d1 d2, P1 d1 → P2 d2 → ∃ d, P d ∧ RD X.K f r d1 d2 d)
    (ha : ta = tP X.K f δ P1) (hb : tb = tP X.K f δ P2) (h : tP X.K f δ P σ H Q) : L2.tOp r ta tb σ H Q := by
  subst ha; subst hb
  obtain ⟨G, rp, q⟩ := h
  refine ⟨G, rp, fun v d1 G1 H1 t1 p1 z1 => ⟨G1, rp.step t1, fun u d2 G2 H2 t2 p2 z2 => ?_⟩⟩
  obtain ⟨d, pd, k⟩ := hr d1 d2 p1 p2
  exact k σ δ G2 H2 v u Q ((rp.step t1).step t2) (z1.mono t2.gg) z2 fun w G3 H3 t3 z3 => q w d G3 H3 ((t1.trans t2).trans t3) pd z3
theorem x_opP {a b : Expr} {op : Operator} {pos : Pos} {r : R2} {P1 P2 P : D → Prop} (ho : OpR X (binaryOp op) r) (hr : ∀ d1 d2, P1 d1 → P2 d2 → ∃ d, P d ∧ RD X.K f r d1 d2 d)
    (ha : PE X a (tP X.K f δ P1)) (hb : PE X b (tP X.K f δ P2)) : PE X (.BinOp a op b pos) (tP X.K f δ P) := pe_imp (pe_op ho ha hb) fun _ _ _ h => op_read hr rfl rfl h
theorem rd_one {K : PySem.W.Frag} {r : R2} {d1 d2 d : D} (hr : RD K f r d1 d2 d) : ∀ e1 e2, e1 = d1 → e2 = d2 → ∃ e, e = d ∧ RD K f r e1 e2 e := fun e1 e2 h1 h2 => ⟨d, rfl, by subst h1; subst h2; exact hr⟩
theorem x_op {a b : Expr} {op : Operator} {pos : Pos} {r : R2} {d1 d2 d : D} (ho : OpR X (binaryOp op) r) (hr : RD X.K f r d1 d2 d) (ha : PE X a (tD X.K f δ d1)) (hb : PE X b (tD X.K f δ d2)) :
    PE X (.BinOp a op b pos) (tD X.K f δ d) := x_opP ho (rd_one hr) ha hb
theorem rd_i0 {K : PySem.W.Frag} {g : Int → Int → V} {i j : Int} {d : D} (h : ∀ G, Dat K f.C G d (g i j)) : RD K f (rI0 g) (.int i) (.int j) d := fun σ δ G H x y Q rp z1 z2 q =>
  ⟨i, j, z1.int_inv, z2.int_inv, q _ G H (Step.refl rp.gh) (h G)⟩
theorem rd_i {K : PySem.W.Frag} {C : Int → Int → Prop} {g : Int → Int → V} {i j : Int} {d : D} (hc : C i j) (h : ∀ G, Dat K f.C G d (g i j)) : RD K f (rI C g) (.int i) (.int j) d := fun σ δ G H x y Q rp z1 z2 q =>
  ⟨i, j, z1.int_inv, z2.int_inv, hc, q _ G H (Step.refl rp.gh) (h G)⟩
section
variable {a b : Expr} {pos : Pos} {i j : Int}
theorem x_add (ha : PE X a (tD X.K f δ (.int i))) (hb : PE X b (tD X.K f δ (.int j))) : PE X (.BinOp a .Add b pos) (tD X.K f δ (.int (i + j))) := x_op op_add (rd_i0 fun _ => dat_int) ha hb
theorem x_sub (ha : PE X a (tD X.K f δ (.int i))) (hb : PE X b (tD X.K f δ (.int j))) : PE X (.BinOp a .Sub b pos) (tD X.K f δ (.int (i - j))) := x_op op_sub (rd_i0 fun _ => dat_int) ha hb
theorem x_mul (hc : CMul i j) (ha : PE X a (tD X.K f δ (.int i))) (hb : PE X b (tD X.K f δ (.int j))) : PE X (.BinOp a .Mult b pos) (tD X.K f δ (.int (i * j))) := x_op op_mul (rd_i hc fun _ => dat_int) ha hb
theorem x_mod (hc : 0 < j) (ha : PE X a (tD X.K f δ (.int i))) (hb : PE X b (tD X.K f δ (.int j))) : PE X (.BinOp a .Mod b pos) (tD X.K f δ (.int (i % j))) := x_op op_mod (rd_i hc fun _ => dat_int) ha hb
theorem x_fdiv (hc : CDiv i j) (ha : PE X a (tD X.K f δ (.int i))) (hb : PE X b (tD X.K f δ (.int j))) : PE X (.BinOp a .FloorDiv b pos) (tD X.K f δ (.int (i / j))) := x_op op_fdiv (rd_i hc fun _ => dat_int) ha hb
theorem x_pow (hc : CPow i j) (ha : PE X a (tD X.K f δ (.int i))) (hb : PE X b (tD X.K f δ (.int j))) : PE X (.BinOp a .Pow b pos) (tD X.K f δ (.int (i ^ j.toNat))) := x_op op_pow (rd_i hc fun _ => dat_int) ha hb
end
/-! ### tuples joined, texts joined -/
theorem rd_catA {K : PySem.W.Frag} {ds es : List D} (hz : ds.length + es.length ≤ sizeLine) : RD K f (rCatA K) (.tup ds) (.tup es) (.tup (ds ++ es)) := fun σ δ G H x y Q rp z1 z2 q => by
  obtain ⟨a, xs, rfl, h1, r1⟩ := z1.tup_inv
  obtain ⟨b, ys, rfl, h2, r2⟩ := z2.tup_inv
  refine ⟨a, b, xs, ys, rfl, rfl, rp.gh.sqT h1, rp.gh.sqT h2, by rw [← r1.len, ← r2.len]; exact hz, ?_, ?_, ?_⟩
  · intro e
    subst e
    have e0 : ds = [] := List.eq_nil_of_length_eq_zero r1.len
    subst e0
    exact q _ G H (Step.refl rp.gh) (dat_tup h2 r2)
  · intro _ e
    subst e
    have e0 : es = [] := List.eq_nil_of_length_eq_zero r2.len
    subst e0
    rw [List.append_nil] at q
    exact q _ G H (Step.refl rp.gh) (dat_tup h1 r1)
  · intro _ _ p hp
    have t := rp.stepNewG (o := .tup (xs ++ ys)) hp
    exact q _ _ _ t (dat_tup (SqT.of upd_same) ((r1.mono t.gg).app (r2.mono t.gg)))
theorem x_cat {a b : Expr} {pos : Pos} {ds es : List D} (hz : ds.length + es.length ≤ sizeLine) (ha : PE X a (tD X.K f δ (.tup ds))) (hb : PE X b (tD X.K f δ (.tup es))) : PE X (.BinOp a .Add b pos) (tD X.K f δ (.tup (ds ++ es))) :=
  x_op op_catA (rd_catA hz) ha hb
theorem x_cats {a b : Expr} {pos : Pos} {x y : Str} (hz : x.length + y.length ≤ sizeLine) (ha : PE X a (tD X.K f δ (.str x))) (hb : PE X b (tD X.K f δ (.str y))) : PE X (.BinOp a .Add b pos) (tD X.K f δ (.str (x ++ y))) :=
  x_op op_add_str (fun σ δ G H v u Q rp z1 z2 q => ⟨x, y, z1.str_inv, z2.str_inv, hz, q _ G H (Step.refl rp.gh) dat_str⟩) ha hb
/-! ### comparisons: values and tests -/
theorem x_cmp {a b : Expr} {op : CmpOp} {pos : Pos} {r : R2} {d1 d2 d : D} (ho : OpR X (compareOp op) r) (hr : RD X.K f r d1 d2 d) (ha : PE X a (tD X.K f δ d1)) (hb : PE X b (tD X.K f δ d2)) (hm : behindInMarks op b = false) :
    PE X (.Compare a [op] [b] pos) (tD X.K f δ d) := pe_imp (pe_cmpR ho ha hb hm) fun _ _ _ h => op_read (rd_one hr) rfl rfl h
theorem t_cmp {a b : Expr} {op : CmpOp} {pos : Pos} {r : R2} {d1 d2 : D} {k : Bool} (ho : OpR X (compareOp op) r) (hr : RD X.K f r d1 d2 (.bl k)) (ha : PE X a (tD X.K f δ d1)) (hb : PE X b (tD X.K f δ d2)) (hm : behindInMarks op b = false) :
    PT X (.Compare a [op] [b] pos) (tBo X.K f δ k) := pt_imp (pt_cmpR ho ha hb hm) fun σ H Q ⟨G, rp, q⟩ => op_read (X := X) (rd_one hr) rfl rfl ⟨G, rp, fun v d G' H' t e z => by
  subst e
  exact ⟨k, z.bl_inv, q G' H' t⟩⟩
theorem t_val {e : Expr} {k : Bool} (h : PE X e (tD X.K f δ (.bl k))) (he : ∀ whole, isTrue e X.env whole = (do let v ← whole; standAt e.pos; holding [v] (truthy v)) := by intro _; rfl) : PT X e (tBo X.K f δ k) :=
  pt_imp (pt_val h he) fun σ H Q ⟨G, rp, q⟩ => ⟨G, rp, fun v d G' H' t e z => by
    subst e
    exact ⟨k, z.bl_inv, q G' H' t⟩⟩
theorem rd_eqI {K : PySem.W.Frag} {i j : Int} : RD K f rEq (.int i) (.int j) (.bl (decide (i = j))) := fun σ δ G H x y Q rp z1 z2 q => by
  rw [z1.int_inv, z2.int_inv]
  refine ⟨rfl, ?_⟩
  have e : decide (V.int i = V.int j) = decide (i = j) := by simp
  rw [e]
  exact q _ G H (Step.refl rp.gh) dat_bl
theorem rd_neI {K : PySem.W.Frag} {i j : Int} : RD K f rNe (.int i) (.int j) (.bl (!decide (i = j))) := fun σ δ G H x y Q rp z1 z2 q => by
  rw [z1.int_inv, z2.int_inv]
  refine ⟨rfl, ?_⟩
  have e : decide (V.int i = V.int j) = decide (i = j) := by simp
  rw [e]
  exact q _ G H (Step.refl rp.gh) dat_bl
theorem rd_eqS {K : PySem.W.Frag} {i j : Str} : RD K f rEq (.str i) (.str j) (.bl (decide (i = j))) := fun σ δ G H x y Q rp z1 z2 q => by
  rw [z1.str_inv, z2.str_inv]
  refine ⟨rfl, ?_⟩
  have e : decide (V.str i = V.str j) = decide (i = j) := by simp
  rw [e]
  exact q _ G H (Step.refl rp.gh) dat_bl
theorem rd_neS {K : PySem.W.Frag} {i j : Str} : RD K f rNe (.str i) (.str j) (.bl (!decide (i = j))) := fun σ δ G H x y Q rp z1 z2 q => by
  rw [z1.str_inv, z2.str_inv]
  refine ⟨rfl, ?_⟩
  have e : decide (V.str i = V.str j) = decide (i = j) := by simp
  rw [e]
  exact q _ G H (Step.refl rp.gh) dat_bl
theorem rd_lt {K : PySem.W.Frag} {i j : Int} : RD K f (rI0 fun i j => .bl (decide (i < j))) (.int i) (.int j) (.bl (decide (i < j))) := rd_i0 fun _ => dat_bl
theorem rd_le {K : PySem.W.Frag} {i j : Int} : RD K f (rI0 fun i j => .bl (decide (i ≤ j))) (.int i) (.int j) (.bl (decide (i ≤ j))) := rd_i0 fun _ => dat_bl
theorem rd_gt {K : PySem.W.Frag} {i j : Int} : RD K f (rI0 fun i j => .bl (decide (j < i))) (.int i) (.int j) (.bl (decide (j < i))) := rd_i0 fun _ => dat_bl
theorem rd_ge {K : PySem.W.Frag} {i j : Int} : RD K f (rI0 fun i j => .bl (decide (j ≤ i))) (.int i) (.int j) (.bl (decide (j ≤ i))) := rd_i0 fun _ => dat_bl
/-- is None -/
def isN : D → Bool
  | .non => true
  | _ => false
theorem dat_isN {K : PySem.W.Frag} {C : Addr} {G : Hp} {d : D} {v : V} (h : Dat K C G d v) : decide (v = .non) = isN d := by
  cases d with
  | non => rw [h.non_inv]; rfl
  | bl b => rw [h.bl_inv]; rfl
  | int b => rw [h.int_inv]; rfl
  | str b => rw [h.str_inv]; rfl
  | tup ds => obtain ⟨a, xs, rfl, _⟩ := h.tup_inv; rfl
  | lst ds => obtain ⟨a, xs, rfl, _⟩ := h.lst_inv; rfl
  | scr ds => obtain ⟨a, rfl, _⟩ := h.scr_inv; rfl
  | dic ds => obtain ⟨a, xs, rfl, _⟩ := h.dic_inv; rfl
  | obj ds => obtain ⟨a, dx, xs, rfl, _⟩ := h.obj_inv; rfl
theorem t_isN {a : Expr} {j pos' pos} {d : D} (ha : PE X a (tD X.K f δ d)) : PT X (.Compare a [.Is] [.Constant .none j pos'] pos) (tBo X.K f δ (isN d)) :=
  t_cmp op_isN (fun σ δ G H x y Q rp z1 z2 q => ⟨z2.non_inv, by rw [dat_isN z1]; exact q _ G H (Step.refl rp.gh) dat_bl⟩) ha x_non (nomark _)
theorem t_notN {a : Expr} {j pos' pos} {d : D} (ha : PE X a (tD X.K f δ d)) : PT X (.Compare a [.IsNot] [.Constant .none j pos'] pos) (tBo X.K f δ (!isN d)) :=
  t_cmp op_notN (fun σ δ G H x y Q rp z1 z2 q => ⟨z2.non_inv, by rw [dat_isN z1]; exact q _ G H (Step.refl rp.gh) dat_bl⟩) ha x_non (nomark _)
/-! ### and, or, not -/
theorem w_and1 {a : Expr} {pos : Pos} {k : Bool} (ha : PT X a (tBo X.K f δ k)) : PW X (.BoolOp .And [a] pos) (tBo X.K f δ k) := pw_and1 ha
theorem w_or1 {a : Expr} {pos : Pos} {k : Bool} (ha : PT X a (tBo X.K f δ k)) : PW X (.BoolOp .Or [a] pos) (tBo X.K f δ k) := pw_or1 ha
theorem w_and {a b : Expr} {rest : List Expr} {pos : Pos} {k l : Bool} (ha : PT X a (tBo X.K f δ k)) (hb : k = true → PW X (.BoolOp .And (b :: rest) pos) (tBo X.K f δ l)) : PW X (.BoolOp .And (a :: b :: rest) pos) (tBo X.K f δ (k && l)) :=
  pw_imp (pw_and ha (pw_given hb)) fun σ H Q ⟨G, rp, q⟩ => ⟨G, rp, fun G' H' t => by
    cases k with
    | true => exact iteT ⟨rfl, G', rp.step t, fun G2 H2 t2 => q G2 H2 (t.trans t2)⟩
    | false => exact iteF (q G' H' t)⟩
theorem w_or {a b : Expr} {rest : List Expr} {pos : Pos} {k l : Bool} (ha : PT X a (tBo X.K f δ k)) (hb : k = false → PW X (.BoolOp .Or (b :: rest) pos) (tBo X.K f δ l)) : PW X (.BoolOp .Or (a :: b :: rest) pos) (tBo X.K f δ (k || l)) :=
  pw_imp (pw_or ha (pw_given hb)) fun σ H Q ⟨G, rp, q⟩ => ⟨G, rp, fun G' H' t => by
    cases k with
    | true => exact iteT (q G' H' t)
    | false => exact iteF ⟨rfl, G', rp.step t, fun G2 H2 t2 => q G2 H2 (t.trans t2)⟩⟩
theorem t_not {a : Expr} {pos : Pos} {k : Bool} (ha : PT X a (tBo X.K f δ k)) : PT X (.UnaryOp .Not a pos) (tBo X.K f δ (!k)) := pt_imp (pt_not ha) fun σ H Q ⟨G, rp, q⟩ => ⟨G, rp, fun G' H' t => q G' H' t⟩
theorem t_is {a : Expr} {k l : Bool} (ha : PT X a (tBo X.K f δ k)) (e : k = l) : PT X a (tBo X.K f δ l) := e ▸ ha
/-- as values -/
theorem x_one {op} {a : Expr} {pos : Pos} {d : D} (h : PE X a (tD X.K f δ d)) : PE X (.BoolOp op [a] pos) (tD X.K f δ d) := pe_one h
theorem x_and {a b : Expr} {rest : List Expr} {pos : Pos} {k l : Bool} (ha : PE X a (tD X.K f δ (.bl k))) (hb : k = true → PE X (.BoolOp .And (b :: rest) pos) (tD X.K f δ (.bl l))) : PE X (.BoolOp .And (a :: b :: rest) pos) (tD X.K f δ (.bl (k && l))) :=
  pe_imp (pe_and ha (pe_given hb)) fun σ H Q ⟨G, rp, q⟩ => ⟨G, rp, fun v d G' H' t e z => by
    subst e
    refine ⟨k, z.bl_inv, ?_⟩
    cases k with
    | true => exact iteT ⟨rfl, G', rp.step t, fun v d G2 H2 t2 e z => q v d G2 H2 (t.trans t2) e z⟩
    | false => exact iteF (q _ _ G' H' t rfl dat_bl)⟩
theorem x_not {a : Expr} {pos : Pos} {k : Bool} (ha : PE X a (tD X.K f δ (.bl k))) : PE X (.UnaryOp .Not a pos) (tD X.K f δ (.bl (!k))) := pe_imp (pe_not ha) fun σ H Q ⟨G, rp, q⟩ => ⟨G, rp, fun v d G' H' t e z => by
  subst e
  exact ⟨k, z.bl_inv, q _ _ G' H' t rfl dat_bl⟩⟩
/-- a if c else b -/
theorem x_if {c a b : Expr} {pos : Pos} {k : Bool} {P : D → Prop} (hc : PT X c (tBo X.K f δ k)) (ha : k = true → PE X a (tP X.K f δ P)) (hb : k = false → PE X b (tP X.K f δ P)) : PE X (.IfExp c a b pos) (tP X.K f δ P) :=
  pe_imp (pe_ifExp hc (pe_given ha) (pe_given hb)) fun σ H Q ⟨G, rp, q⟩ => ⟨G, rp, fun G' H' t => by
    cases k with
    | true => exact iteT ⟨rfl, G', rp.step t, fun v d G2 H2 t2 e z => q v d G2 H2 (t.trans t2) e z⟩
    | false => exact iteF ⟨rfl, G', rp.step t, fun v d G2 H2 t2 e z => q v d G2 H2 (t.trans t2) e z⟩⟩
/-! ### argument lists, displays -/
theorem a_nil : PA X [] (tL X.K f δ []) := pa_imp pa_nil fun σ H Q ⟨G, rp, q⟩ => q [] [] G H (Step.refl rp.gh) rfl dats_nil
theorem a_consP {e : Expr} {es : List Expr} {P : D → Prop} {Ps R : List D → Prop} (ha : PE X e (tP X.K f δ P)) (hr : PA X es (tAP X.K f δ Ps)) (k : ∀ d ds, P d → Ps ds → R (d :: ds)) (hs : starEach (e :: es) X.env = (false, eval e X.env) :: starEach es X.env := by rfl) :
    PA X (e :: es) (tAP X.K f δ R) := pa_imp (pa_cons ha hr hs) fun σ H Q ⟨G, rp, q⟩ => ⟨G, rp, fun v d G' H' t e z => ⟨G', rp.step t, fun vs ds G2 H2 t2 e2 z2 => q _ _ G2 H2 (t.trans t2) (k d ds e e2) (dats_cons (z.mono t2.gg) z2)⟩⟩
theorem a_cons {e : Expr} {es : List Expr} {d : D} {ds : List D} (ha : PE X e (tD X.K f δ d)) (hr : PA X es (tL X.K f δ ds)) (hs : starEach (e :: es) X.env = (false, eval e X.env) :: starEach es X.env := by rfl) :
    PA X (e :: es) (tL X.K f δ (d :: ds)) := a_consP ha hr (fun _ _ h1 h2 => by rw [h1, h2]) hs
theorem x_tupP {es : List Expr} {x1 pos} {P : List D → Prop} {R : D → Prop} (h : PA X es (tAP X.K f δ P)) (k : ∀ ds, P ds → ds.length ≤ 100000 ∧ R (.tup ds)) : PE X (.Tuple es x1 pos) (tP X.K f δ R) :=
  pe_imp (pe_tup h) fun σ H Q ⟨G, rp, q⟩ => ⟨G, rp, fun vs ds G' H' t e z => ⟨by have := (k ds e).1; rw [← z.len]; exact Nat.le_trans this (by decide), fun p hp => by
    have t2 := (rp.step t).stepNewG (o := .tup vs) hp
    exact q _ _ _ _ (t.trans t2) (k ds e).2 (dat_tup (SqT.of upd_same) (z.mono t2.gg))⟩⟩
theorem x_tup {es : List Expr} {x1 pos} {ds : List D} (h : PA X es (tL X.K f δ ds)) (hz : ds.length ≤ 100000 := by exact Nat.le_of_ble_eq_true rfl) : PE X (.Tuple es x1 pos) (tD X.K f δ (.tup ds)) := x_tupP h fun e h => by rw [h]; exact ⟨hz, rfl⟩
theorem x_lst {es : List Expr} {pos} {ds : List D} (h : PA X es (tL X.K f δ ds)) (hz : ds.length ≤ 100000 := by exact Nat.le_of_ble_eq_true rfl) : PE X (.List es pos) (tN X.K f δ ds) :=
  pe_imp (pe_lst h) fun σ H Q ⟨G, rp, q⟩ => ⟨G, rp, fun vs es G' H' t e z => ⟨by rw [← z.len, e]; exact Nat.le_trans hz (by decide), fun p hp => by
    have t2 := (rp.step t).stepNew (o := .lst vs) hp
    have hp0 : H p = none := by
      cases q : H p with
      | none => rfl
      | some o => exact absurd hp (t.rm p (ne_none q))
    exact q _ _ _ _ _ (t.trans t2) hp0 (t.gh.none hp) (fun m => (rp.mM p m).2 hp0) upd_same e z⟩⟩
/-- a new list given away to the region -/
theorem Step.freeze {f : Fm} {G H G' H' : Hp} {p : Addr} {o : HO} (t : Step f G H G' H') (hp : H p = none) (hg : G' p = none) (hm : ¬ f.M p) (ho : H' p = some o) : Step f G H (upd G' p o) H' where
  gg := t.gg.trans (Sub.new hg)
  gh := fun a u e => by
    by_cases h : a = p
    · subst h; rw [upd_same] at e; cases e; exact ho
    · rw [upd_ne h] at e; exact t.gh a u e
  rh := t.rh
  rm := t.rm
  fr := fun a h h2 => by
    by_cases e : a = p
    · subst e; exact absurd hp h
    · rw [upd_ne e] at h2; exact t.fr a h h2
  inv := fun i => f.keep _ _ _ _ (Sub.new hg) (fun _ _ => rfl) (t.inv i)
theorem x_frzP {e : Expr} {P : List D → Prop} {R : D → Prop} (h : PE X e (tNP X.K f δ P)) (k : ∀ ds, P ds → R (.lst ds)) : PE X e (tP X.K f δ R) := pe_imp h fun σ H Q ⟨G, rp, q⟩ => ⟨G, rp, fun p xs ds G' H' t hp hg hm ho e z => by
  have t2 := t.freeze hp hg hm ho
  exact q _ _ _ _ t2 (k ds e) (dat_lst upd_same (z.mono (Sub.new hg)))⟩
theorem x_frz {e : Expr} {ds : List D} (h : PE X e (tN X.K f δ ds)) : PE X e (tD X.K f δ (.lst ds)) := x_frzP h fun _ h => by rw [h]
/-! ### operands that are lists or tuples -/
theorem o_tup {e : Expr} {ds : List D} (h : PE X e (tD X.K f δ (.tup ds))) : PE X e (tS X.K f δ ds) := pe_imp h fun σ H Q ⟨G, rp, q⟩ => ⟨G, rp, fun v d G' H' t e z => by
  subst e
  obtain ⟨a, xs, rfl, h1, r1⟩ := z.tup_inv
  exact q a xs G' H' t (fun G2 H2 t2 => .inr ((t2.gg.trans t2.gh).sqT h1)) r1⟩
theorem o_lst {e : Expr} {ds : List D} (h : PE X e (tD X.K f δ (.lst ds))) : PE X e (tSl X.K f δ ds) := pe_imp h fun σ H Q ⟨G, rp, q⟩ => ⟨G, rp, fun v d G' H' t e z => by
  subst e
  obtain ⟨a, xs, rfl, h1, r1⟩ := z.lst_inv
  exact q a xs G' H' t (fun G2 H2 t2 => SqL.of ((t2.gg.trans t2.gh) _ _ h1)) r1⟩
theorem o_scr {e : Expr} {ns : List Int} (h : PE X e (tD X.K f δ (.scr ns))) : PE X e (tSl X.K f δ (inz ns)) := pe_imp h fun σ H Q ⟨G, rp, q⟩ => ⟨G, rp, fun v d G' H' t e z => by
  subst e
  obtain ⟨a, rfl, h1⟩ := z.scr_inv
  exact q a _ G' H' t (fun G2 H2 t2 => (t2.gg.trans t2.gh).sqL h1) (dats_inz ns)⟩
theorem o_new {e : Expr} {ds : List D} (h : PE X e (tN X.K f δ ds)) : PE X e (tSl X.K f δ ds) := o_lst (x_frz h)
theorem o_own {e : Expr} {i : Nat} {ds : List D} (h : PE X e (tVar i)) (hd : dAt δ i = .own ds) : PE X e (tSl X.K f δ ds) := pe_imp h fun σ H Q ⟨G, rp, q⟩ => by
  have s := rp.slot i
  rw [hd] at s
  obtain ⟨l, xs, e1, e2, e3, e4, e5, e6⟩ := s
  exact ⟨.ref l, sAt_some e1, q l xs G H (Step.refl rp.gh) (fun G2 H2 t2 => SqL.of (t2.rh _ _ e6 e2)) e3⟩
theorem o_l {e : Expr} {ds : List D} (h : PE X e (tSl X.K f δ ds)) : PE X e (tS X.K f δ ds) := pe_imp h fun σ H Q ⟨G, rp, q⟩ => ⟨G, rp, fun a xs G' H' t s z => q a xs G' H' t (fun G2 H2 t2 => .inl (s G2 H2 t2)) z⟩
end
end Un
set_option maxHeartbeats 4000000
/-! Un: subscripts, slices, built-in calls, attributes, dicts, comprehensions. -/
namespace Un
open PySem L2
section
variable {K : PySem.W.Frag} {C : Addr} {G : Hp}
theorem Dats.at {ds : List D} {xs : List V} {z : Int} {d : D} (h : Dats K C G ds xs) (e : atI ds z = some d) : ∃ x, atI xs z = some x ∧ Dat K C G d x := by
  unfold atI at e ⊢
  rw [← h.len]
  cases q : ixN ds.length z with
  | none => rw [q] at e; cases e
  | some j => rw [q] at e; exact h.get e
end
section
variable {X : Cx} {f : Fm} {δ : List Sl}
/-! ### subscripts -/
theorem x_ixP {a b : Expr} {pos : Pos} {ds : List D} {P1 P : D → Prop} (ha : PE X a (tS X.K f δ ds)) (hb : PE X b (tP X.K f δ P1)) (h : ∀ e, P1 e → ∃ z d, e = .int z ∧ atI ds z = some d ∧ P d) (hs : PlainIx b := by exact fun _ _ => rfl) :
    PE X (.Subscript a b pos) (tP X.K f δ P) := pe_imp (pe_ix ix_seq ha hb hs) fun σ H Q ⟨G, rp, q⟩ => ⟨G, rp, fun p xs G1 H1 t1 st z1 => ⟨G1, rp.step t1, fun v e G2 H2 t2 pe z2 => by
  obtain ⟨z, d, rfl, hz, pd⟩ := h e pe
  rw [z2.int_inv]
  obtain ⟨x, hx, zx⟩ := (z1.mono t2.gg).at hz
  rcases st G2 H2 t2 with s | s
  · exact .inl ⟨p, xs, z, x, rfl, rfl, s, hx, q x d G2 H2 (t1.trans t2) pd zx⟩
  · exact .inr (.inl ⟨p, xs, z, x, rfl, rfl, s, hx, q x d G2 H2 (t1.trans t2) pd zx⟩)⟩⟩
theorem x_ix {a b : Expr} {pos : Pos} {ds : List D} {z : Int} {d : D} (ha : PE X a (tS X.K f δ ds)) (hb : PE X b (tD X.K f δ (.int z))) (h : atI ds z = some d) (hs : PlainIx b := by exact fun _ _ => rfl) :
    PE X (.Subscript a b pos) (tD X.K f δ d) := x_ixP ha hb (fun e q => ⟨z, d, q, h, rfl⟩) hs
/-- t[i], t a tuple -/
theorem x_ixt {a b : Expr} {pos : Pos} {ds : List D} {z : Int} {d : D} (ha : PE X a (tD X.K f δ (.tup ds))) (hb : PE X b (tD X.K f δ (.int z))) (h : atI ds z = some d) (hs : PlainIx b := by exact fun _ _ => rfl) :
    PE X (.Subscript a b pos) (tD X.K f δ d) := x_ix (o_tup ha) hb h hs
theorem x_ixs {a b : Expr} {pos : Pos} {s : Str} {z : Int} {c : Nat} (hz : s.length ≤ 100000) (ha : PE X a (tD X.K f δ (.str s))) (hb : PE X b (tD X.K f δ (.int z))) (h : atI s.cps.toList z = some c) (hs : PlainIx b := by exact fun _ _ => rfl) :
    PE X (.Subscript a b pos) (tD X.K f δ (.str ⟨#[c]⟩)) := pe_imp (pe_ix ix_str ha hb hs) fun σ H Q ⟨G, rp, q⟩ => ⟨G, rp, fun v e G1 H1 t1 e1 z1 => ⟨G1, rp.step t1, fun w e2 G2 H2 t2 pe z2 => by
  subst e1; subst pe
  exact ⟨s, z, c, z1.str_inv, z2.int_inv, Nat.le_trans hz (by decide), h, q _ _ G2 H2 (t1.trans t2) rfl dat_str⟩⟩⟩
/-! ### slices -/
theorem p_no : PO X none (tOp X.K f δ none) := po_imp po_none fun σ H Q ⟨G, rp, q⟩ => q G H (Step.refl rp.gh)
theorem p_int {e : Expr} {i : Int} (h : PE X e (tD X.K f δ (.int i))) : PO X (some e) (tOp X.K f δ (some i)) := po_imp (po_some h) fun σ H Q ⟨G, rp, q⟩ => ⟨G, rp, fun v d G' H' t e z => by
  subst e
  exact ⟨i, z.int_inv, q G' H' t⟩⟩
theorem x_sl {a : Expr} {lo hi : Option Expr} {p2 pos : Pos} {ds : List D} {l h : Option Int} (ha : PE X a (tD X.K f δ (.tup ds))) (hl : PO X lo (tOp X.K f δ l)) (hh : PO X hi (tOp X.K f δ h)) :
    PE X (.Subscript a (.Slice lo hi none p2) pos) (tD X.K f δ (.tup (cutD ds l h))) := pe_imp (pe_slice sl_tupA ha hl hh) fun σ H Q ⟨G, rp, q⟩ => ⟨G, rp, fun v e G1 H1 t1 e1 z1 => ⟨G1, rp.step t1, fun G2 H2 t2 => ⟨G2, (rp.step t1).step t2, fun G3 H3 t3 => by
  subst e1
  obtain ⟨p, xs, rfl, s, z⟩ := z1.tup_inv
  have t23 := t2.trans t3
  have zz := (z.mono t23.gg).cut l h
  refine ⟨p, xs, rfl, (t23.gg.trans t23.gh).sqT s, fun w => ?_, fun w p' hp => ?_⟩
  · have e : cutV xs l h = xs := by
      unfold cutV
      rw [w.1, w.2, List.drop_zero, Nat.sub_zero, List.take_length]
    rw [e] at zz
    exact q _ _ G3 H3 (t1.trans t23) rfl (dat_tup (t23.gg.sqT s) zz)
  · have t4 := ((rp.step t1).step t23).stepNewG (o := .tup (cutV xs l h)) hp
    exact q _ _ _ _ ((t1.trans t23).trans t4) rfl (dat_tup (SqT.of upd_same) (zz.mono t4.gg))⟩⟩⟩
/-- the slice of a list: a new list -/
theorem x_sll {a : Expr} {lo hi : Option Expr} {p2 pos : Pos} {ds : List D} {l h : Option Int} (ha : PE X a (tSl X.K f δ ds)) (hl : PO X lo (tOp X.K f δ l)) (hh : PO X hi (tOp X.K f δ h)) :
    PE X (.Subscript a (.Slice lo hi none p2) pos) (tN X.K f δ (cutD ds l h)) := pe_imp (pe_slice sl_list ha hl hh) fun σ H Q ⟨G, rp, q⟩ => ⟨G, rp, fun p xs G1 H1 t1 s z => ⟨G1, rp.step t1, fun G2 H2 t2 => ⟨G2, (rp.step t1).step t2, fun G3 H3 t3 => by
  have t23 := t2.trans t3
  have zz := (z.mono t23.gg).cut l h
  refine ⟨p, xs, rfl, s G3 H3 t23, fun p' hp => ?_⟩
  have rp3 := (rp.step t1).step t23
  have t4 := rp3.stepNew (o := .lst (cutV xs l h)) hp
  have hp0 : H p' = none := by
    cases q : H p' with
    | none => rfl
    | some o => exact absurd hp ((t1.trans t23).rm p' (ne_none q))
  exact q _ _ _ _ _ ((t1.trans t23).trans t4) hp0 (rp3.gh.none hp) (fun m => (rp.mM p' m).2 hp0) upd_same rfl zz⟩⟩⟩
theorem x_sls {a : Expr} {lo hi : Option Expr} {p2 pos : Pos} {s : Str} {l h : Option Int} (hz : s.length ≤ 16777216) (ha : PE X a (tD X.K f δ (.str s))) (hl : PO X lo (tOp X.K f δ l)) (hh : PO X hi (tOp X.K f δ h)) :
    PE X (.Subscript a (.Slice lo hi none p2) pos) (tD X.K f δ (.str (cutS s l h))) := pe_imp (pe_slice sl_str ha hl hh) fun σ H Q ⟨G, rp, q⟩ => ⟨G, rp, fun v e G1 H1 t1 e1 z1 => ⟨G1, rp.step t1, fun G2 H2 t2 => ⟨G2, (rp.step t1).step t2, fun G3 H3 t3 => by
  subst e1
  exact ⟨s, z1.str_inv, hz, q _ _ G3 H3 (t1.trans (t2.trans t3)) rfl dat_str⟩⟩⟩⟩
/-! ### built-in functions and classes -/
theorem Rep.back {K : PySem.W.Frag} {σ : St} {G H G' H' : Hp} (rp : Rep K f σ δ G H) (t : Step f G H G' H') {p : Addr} (hp : H' p = none) : H p = none ∧ ¬ f.M p := by
  have h : H p = none := by
    cases q : H p with
    | none => rfl
    | some o => exact absurd hp (t.rm p (ne_none q))
  exact ⟨h, fun m => (rp.mM p m).2 h⟩
section
variable {x : Str} {p pos : Pos} {e : Expr}
theorem x_len {ds : List D} (hg : Gl X "len") (hm : X.mg "len" = none) (ha : PE X e (tS X.K f δ ds)) (he : starEach (e :: []) X.env = (false, eval e X.env) :: starEach [] X.env := by rfl) (hpl : (backTo pos (starEach [] X.env)).any (·.1) = false := by rfl) :
    PE X (.Call (.Name "len" p) [e] [] pos) (tD X.K f δ (.int ds.length)) :=
  pe_imp (pe_callB call_len_seq hg hm boot_len (pa_cons ha pa_nil he) (by decide) (by decide) he hpl) fun σ H Q ⟨G, rp, q⟩ => ⟨G, rp, fun a xs G' H' t s z => ⟨a, xs, rfl, s G' H' (Step.refl t.gh), by
    rw [← z.len]; exact q _ _ G' H' t rfl dat_int⟩⟩
theorem x_lens {s : Str} (hz : s.length ≤ 16777216) (hg : Gl X "len") (hm : X.mg "len" = none) (ha : PE X e (tD X.K f δ (.str s))) (he : starEach (e :: []) X.env = (false, eval e X.env) :: starEach [] X.env := by rfl) (hpl : (backTo pos (starEach [] X.env)).any (·.1) = false := by rfl) :
    PE X (.Call (.Name "len" p) [e] [] pos) (tD X.K f δ (.int s.length)) :=
  pe_imp (pe_callB call_len_str hg hm boot_len (pa_cons ha pa_nil he) (by decide) (by decide) he hpl) fun σ H Q ⟨G, rp, q⟩ => ⟨G, rp, fun v d G' H' t e z => by
    subst e
    rw [z.str_inv]
    exact ⟨s, rfl, hz, q _ _ G' H' t rfl dat_int⟩⟩
theorem x_lend {kvs : List (Key × D)} (hg : Gl X "len") (hm : X.mg "len" = none) (ha : PE X e (tD X.K f δ (.dic kvs))) (he : starEach (e :: []) X.env = (false, eval e X.env) :: starEach [] X.env := by rfl) (hpl : (backTo pos (starEach [] X.env)).any (·.1) = false := by rfl) :
    PE X (.Call (.Name "len" p) [e] [] pos) (tD X.K f δ (.int kvs.length)) :=
  pe_imp (pe_callB call_lenD hg hm boot_len (pa_cons ha pa_nil he) (by decide) (by decide) he hpl) fun σ H Q ⟨G, rp, q⟩ => ⟨G, rp, fun v d G' H' t e z => by
    subst e
    obtain ⟨a, ys, rfl, h1, h2⟩ := z.dic_inv
    exact ⟨a, ys, rfl, t.gh _ _ h1, by rw [← h2.len]; exact q _ _ G' H' t rfl dat_int⟩⟩
/-- int(n), n an int -/
theorem x_intP {P : D → Prop} (hg : Gl X "int") (hm : X.mg "int" = none) (ha : PE X e (tP X.K f δ P)) (hP : ∀ d, P d → ∃ i, d = .int i) (he : starEach (e :: []) X.env = (false, eval e X.env) :: starEach [] X.env := by rfl) (hpl : (backTo pos (starEach [] X.env)).any (·.1) = false := by rfl) :
    PE X (.Call (.Name "int" p) [e] [] pos) (tP X.K f δ P) :=
  pe_imp (pe_callTy call_int1 hg hm (by decide +kernel) (pa_cons ha pa_nil he) (by decide) (by decide) he hpl) fun σ H Q ⟨G, rp, q⟩ => ⟨G, rp, fun v d G' H' t e z => by
    obtain ⟨i, rfl⟩ := hP d e
    exact .inl ⟨i, by rw [z.int_inv], q _ _ G' H' t e dat_int⟩⟩
theorem x_inti {i : Int} (hg : Gl X "int") (hm : X.mg "int" = none) (ha : PE X e (tD X.K f δ (.int i))) (he : starEach (e :: []) X.env = (false, eval e X.env) :: starEach [] X.env := by rfl) (hpl : (backTo pos (starEach [] X.env)).any (·.1) = false := by rfl) :
    PE X (.Call (.Name "int" p) [e] [] pos) (tD X.K f δ (.int i)) := x_intP hg hm ha (fun d h => ⟨i, h⟩) he hpl
theorem x_intb {b : Bool} (hg : Gl X "int") (hm : X.mg "int" = none) (ha : PE X e (tD X.K f δ (.bl b))) (he : starEach (e :: []) X.env = (false, eval e X.env) :: starEach [] X.env := by rfl) (hpl : (backTo pos (starEach [] X.env)).any (·.1) = false := by rfl) :
    PE X (.Call (.Name "int" p) [e] [] pos) (tD X.K f δ (.int (if b then 1 else 0))) :=
  pe_imp (pe_callTy call_int1 hg hm (by decide +kernel) (pa_cons ha pa_nil he) (by decide) (by decide) he hpl) fun σ H Q ⟨G, rp, q⟩ => ⟨G, rp, fun v d G' H' t e z => by
    subst e
    exact .inr ⟨b, by rw [z.bl_inv], q _ _ G' H' t rfl dat_int⟩⟩
theorem x_ints {s : Str} {n : Int} (hn : PySem.intText? s = some n) (hz : s.length ≤ 640) (hg : Gl X "int") (hm : X.mg "int" = none) (ha : PE X e (tD X.K f δ (.str s))) (he : starEach (e :: []) X.env = (false, eval e X.env) :: starEach [] X.env := by rfl) (hpl : (backTo pos (starEach [] X.env)).any (·.1) = false := by rfl) :
    PE X (.Call (.Name "int" p) [e] [] pos) (tD X.K f δ (.int n)) :=
  pe_imp (pe_callTy call_int_str hg hm (by decide +kernel) (pa_cons ha pa_nil he) (by decide) (by decide) he hpl) fun σ H Q ⟨G, rp, q⟩ => ⟨G, rp, fun v d G' H' t e z => by
    subst e
    exact ⟨s, n, by rw [z.str_inv], hn, hz, q _ _ G' H' t rfl dat_int⟩⟩
theorem x_stri {i : Int} (hz : i.natAbs.log2 < 1920) (hg : Gl X "str") (hm : X.mg "str" = none) (ha : PE X e (tD X.K f δ (.int i))) (he : starEach (e :: []) X.env = (false, eval e X.env) :: starEach [] X.env := by rfl) (hpl : (backTo pos (starEach [] X.env)).any (·.1) = false := by rfl) :
    PE X (.Call (.Name "str" p) [e] [] pos) (tD X.K f δ (.str (toString i))) :=
  pe_imp (pe_callTy call_str_int hg hm (by decide +kernel) (pa_cons ha pa_nil he) (by decide) (by decide) he hpl) fun σ H Q ⟨G, rp, q⟩ => ⟨G, rp, fun v d G' H' t e z => by
    subst e
    exact ⟨i, by rw [z.int_inv], hz, q _ _ G' H' t rfl dat_str⟩⟩
/-- tuple(xs), xs a list -/
theorem x_tuple {ds : List D} (hg : Gl X "tuple") (hm : X.mg "tuple" = none) (ha : PE X e (tSl X.K f δ ds)) (he : starEach (e :: []) X.env = (false, eval e X.env) :: starEach [] X.env := by rfl) :
    PE X (.Call (.Name "tuple" p) [e] [] pos) (tD X.K f δ (.tup ds)) :=
  pe_imp (pe_tupleOf hg hm ha he) fun σ H Q ⟨G, rp, q⟩ => ⟨G, rp, fun a xs G' H' t s z => .inl ⟨a, xs, rfl, s G' H' (Step.refl t.gh), fun w hw => by
    have t2 := (rp.step t).stepNewG (o := .tup xs) hw
    exact q _ _ _ _ (t.trans t2) rfl (dat_tup (SqT.of upd_same) (z.mono t2.gg))⟩⟩
theorem x_tupleNP {P : List D → Prop} {R : D → Prop} (hg : Gl X "tuple") (hm : X.mg "tuple" = none) (ha : PE X e (tNP X.K f δ P)) (k : ∀ ds, P ds → R (.tup ds)) (he : starEach (e :: []) X.env = (false, eval e X.env) :: starEach [] X.env := by rfl) :
    PE X (.Call (.Name "tuple" p) [e] [] pos) (tP X.K f δ R) :=
  pe_imp (pe_tupleOf hg hm ha he) fun σ H Q ⟨G, rp, q⟩ => ⟨G, rp, fun a xs ds G' H' t hp hg' hM ho pd z => .inl ⟨a, xs, rfl, SqL.of ho, fun w hw => by
    have t2 := (rp.step t).stepNewG (o := .tup xs) hw
    exact q _ _ _ _ (t.trans t2) (k ds pd) (dat_tup (SqT.of upd_same) (z.mono t2.gg))⟩⟩
theorem x_list {ds : List D} (hg : Gl X "list") (hm : X.mg "list" = none) (ha : PE X e (tS X.K f δ ds)) (he : starEach (e :: []) X.env = (false, eval e X.env) :: starEach [] X.env := by rfl) (hpl : (backTo pos (starEach [] X.env)).any (·.1) = false := by rfl) :
    PE X (.Call (.Name "list" p) [e] [] pos) (tN X.K f δ ds) :=
  pe_imp (pe_callTy call_list_of hg hm (by decide +kernel) (pa_cons ha pa_nil he) (by decide) (by decide) he hpl) fun σ H Q ⟨G, rp, q⟩ => ⟨G, rp, fun a xs G' H' t s z => ⟨a, xs, rfl, s G' H' (Step.refl t.gh), fun w hw => by
    have t2 := (rp.step t).stepNew (o := .lst xs) hw
    have b := rp.back t hw
    exact q _ _ _ _ _ (t.trans t2) b.1 (t.gh.none hw) b.2 upd_same rfl z⟩⟩
/-- sum(xs), ints -/
theorem x_sum {ns : List Int} (hc : X.calm = true) (hg : Gl X "sum") (hm : X.mg "sum" = none) (ha : PE X e (tSl X.K f δ (inz ns))) (he : starEach (e :: []) X.env = (false, eval e X.env) :: starEach [] X.env := by rfl) (hpl : (backTo pos (starEach [] X.env)).any (·.1) = false := by rfl) :
    PE X (.Call (.Name "sum" p) [e] [] pos) (tD X.K f δ (.int ns.sum)) :=
  pe_imp (pe_callB (cr_sum hc) hg hm (by decide +kernel) (pa_cons ha pa_nil he) (by decide) (by decide) he hpl) fun σ H Q ⟨G, rp, q⟩ => ⟨G, rp, fun a xs G' H' t s z => ⟨a, ns, rfl, by
    have e := z.inz
    rw [← e]; exact s G' H' (Step.refl t.gh), q _ _ G' H' t rfl dat_int⟩⟩
theorem x_min {a b : Expr} {i j : Int} (hc : X.calm = true) (hg : Gl X "min") (hm : X.mg "min" = none) (ha : PE X a (tD X.K f δ (.int i))) (hb : PE X b (tD X.K f δ (.int j))) (he : starEach (a :: [b]) X.env = (false, eval a X.env) :: starEach [b] X.env := by rfl)
    (he2 : starEach (b :: []) X.env = (false, eval b X.env) :: starEach [] X.env := by rfl) (hpl : (backTo pos (starEach [b] X.env)).any (·.1) = false := by rfl) :
    PE X (.Call (.Name "min" p) [a, b] [] pos) (tD X.K f δ (.int (if j < i then j else i))) :=
  pe_imp (pe_callB (call_min2 hc) hg hm (by decide +kernel) (pa_cons ha (pa_cons hb pa_nil he2) he) (by decide) (by decide) he hpl) fun σ H Q ⟨G, rp, q⟩ => ⟨G, rp, fun v d G1 H1 t1 e1 z1 => ⟨G1, rp.step t1, fun u d2 G2 H2 t2 e2 z2 => by
    subst e1; subst e2
    rw [z1.int_inv, z2.int_inv]
    exact ⟨i, j, rfl, q _ _ G2 H2 (t1.trans t2) rfl dat_int⟩⟩⟩
theorem x_sorted {ns : List Int} {R : List D → Prop} (hz : ns.length < 64) (hg : Gl X "sorted") (hm : X.mg "sorted" = none) (ha : PE X e (tSl X.K f δ (inz ns))) (k : ∀ ms : List Int, ms.Perm ns → ms.Pairwise (· ≤ ·) → R (inz ms)) (he : starEach (e :: []) X.env = (false, eval e X.env) :: starEach [] X.env := by rfl) (hpl : (backTo pos (starEach [] X.env)).any (·.1) = false := by rfl) :
    PE X (.Call (.Name "sorted" p) [e] [] pos) (tNP X.K f δ R) :=
  pe_imp (pe_callB cr_sorted hg hm (by decide +kernel) (pa_cons ha pa_nil he) (by decide) (by decide) he hpl) fun σ H Q ⟨G, rp, q⟩ => ⟨G, rp, fun a xs G' H' t s z => ⟨a, ns, rfl, by
    have e := z.inz
    rw [← e]; exact s G' H' (Step.refl t.gh), hz, fun ms w pm pw hw => by
    have t2 := (rp.step t).stepNew (o := .lst (ms.map V.int)) hw
    have b := rp.back t hw
    exact q _ _ _ _ _ (t.trans t2) b.1 (t.gh.none hw) b.2 upd_same (k ms pm pw) (dats_inz ms)⟩⟩
end
/-! ### ranges -/
def rngD (lo : Int) (n : Nat) : List D := (List.range n).map fun i => D.int (lo + (i : Nat))
theorem rngD_len (lo : Int) (n : Nat) : (rngD lo n).length = n := by unfold rngD; simp
theorem rngD_get {lo : Int} {n i : Nat} {d : D} (h : (rngD lo n)[i]? = some d) : i < n ∧ d = .int (lo + (i : Nat)) := by
  unfold rngD at h
  rw [List.getElem?_map] at h
  have l : i < n := by
    cases Nat.lt_or_ge i n with
    | inl q => exact q
    | inr q => rw [List.getElem?_eq_none (by simpa using q)] at h; cases h
  rw [List.getElem?_range l] at h
  exact ⟨l, (Option.some.inj h).symm⟩
theorem rngD_at {lo : Int} {n i : Nat} (h : i < n) : (rngD lo n)[i]? = some (.int (lo + (i : Nat))) := by
  unfold rngD
  rw [List.getElem?_map, List.getElem?_range h]; rfl
theorem rgV_eq (a b : Int) : rgV a b = (rngD a (b - a).toNat).map (fun d => match d with | .int i => V.int i | _ => .non) := by
  unfold rgV rngD
  rw [List.map_map]; rfl
theorem dats_rng {K : PySem.W.Frag} {C : Addr} {G : Hp} (a b : Int) : Dats K C G (rngD a (b - a).toNat) (rgV a b) := by
  have h : rngD a (b - a).toNat = inz ((List.range (b - a).toNat).map fun i => a + ((i : Nat) : Int)) := by
    unfold rngD inz; rw [List.map_map]; rfl
  have h2 : rgV a b = ((List.range (b - a).toNat).map fun i => a + ((i : Nat) : Int)).map V.int := by
    unfold rgV; rw [List.map_map]; rfl
  rw [h, h2]
  exact dats_inz _
/-- range(a, b) as an argument -/
theorem g_rng1 {a : Expr} {n : Int} {p pos : Pos} (hg : Gl X "range") (hm : X.mg "range" = none) (ha : PE X a (tD X.K f δ (.int n))) (na : starEach [a] X.env = (false, eval a X.env) :: starEach [] X.env := by rfl) :
    PRg X (.Call (.Name "range" p) [a] [] pos) (fun σ H Q => ∃ G, Rep X.K f σ δ G H ∧ ∀ G' H', Step f G H G' H' → Q 0 n H') := fun pins s σ H Q I ⟨G, rp, q⟩ =>
  prg_1 hg hm ha na pins s σ H Q I ⟨G, rp, fun v d G' H' t e z => by subst e; exact ⟨n, z.int_inv, q G' H' t⟩⟩
theorem g_rng2 {a b : Expr} {m n : Int} {p pos : Pos} (hg : Gl X "range") (hm : X.mg "range" = none) (ha : PE X a (tD X.K f δ (.int m))) (hb : PE X b (tD X.K f δ (.int n))) (na : starEach [a, b] X.env = (false, eval a X.env) :: starEach [b] X.env := by rfl)
    (nb : starEach [b] X.env = (false, eval b X.env) :: starEach [] X.env := by rfl) (hp : (backTo pos (starEach [b] X.env)).any (·.1) = false := by rfl) :
    PRg X (.Call (.Name "range" p) [a, b] [] pos) (fun σ H Q => ∃ G, Rep X.K f σ δ G H ∧ ∀ G' H', Step f G H G' H' → Q m n H') := fun pins s σ H Q I ⟨G, rp, q⟩ =>
  prg_2 hg hm ha hb na nb hp pins s σ H Q I ⟨G, rp, fun v d G' H' t e z => ⟨G', rp.step t, fun v2 d2 G2 H2 t2 e2 z2 => by subst e; subst e2; exact ⟨m, n, z.int_inv, z2.int_inv, q G2 H2 (t.trans t2)⟩⟩⟩
theorem x_tupRg {e : Expr} {a b : Int} {p pos : Pos} (hk : RgOk a b) (hc : X.calm = true) (hg : Gl X "tuple") (hm : X.mg "tuple" = none) (he : PRg X e (fun σ H Q => ∃ G, Rep X.K f σ δ G H ∧ ∀ G' H', Step f G H G' H' → Q a b H')) (na : starEach [e] X.env = (false, eval e X.env) :: starEach [] X.env := by rfl) :
    PE X (.Call (.Name "tuple" p) [e] [] pos) (tD X.K f δ (.tup (rngD a (b - a).toNat))) := pe_imp (pe_tupRg hc hg hm he na) fun σ H Q ⟨G, rp, q⟩ => ⟨G, rp, fun G' H' t => ⟨hk, fun w hw => by
    have t2 := (rp.step t).stepNewG (o := .tup (rgV a b)) hw
    exact q _ _ _ _ (t.trans t2) rfl (dat_tup (SqT.of upd_same) (dats_rng a b))⟩⟩
theorem x_listRg {e : Expr} {a b : Int} {p pos : Pos} (hk : RgOk a b) (hc : X.calm = true) (hg : Gl X "list") (hm : X.mg "list" = none) (he : PRg X e (fun σ H Q => ∃ G, Rep X.K f σ δ G H ∧ ∀ G' H', Step f G H G' H' → Q a b H')) (na : starEach [e] X.env = (false, eval e X.env) :: starEach [] X.env := by rfl) :
    PE X (.Call (.Name "list" p) [e] [] pos) (tN X.K f δ (rngD a (b - a).toNat)) := pe_imp (pe_listRg hc hg hm he na) fun σ H Q ⟨G, rp, q⟩ => ⟨G, rp, fun G' H' t => ⟨hk, fun w hw => by
    have t2 := (rp.step t).stepNew (o := .lst (rgV a b)) hw
    have b := rp.back t hw
    exact q _ _ _ _ _ (t.trans t2) b.1 (t.gh.none hw) b.2 upd_same rfl (dats_rng _ _)⟩⟩
/-! ### attributes -/
theorem x_fld {e : Expr} {pos : Pos} {g : Str} {fs : List (Str × D)} {d : D} (c : Cls X.K f.C) (n : NoAttr X.K f.C g) (he : PE X e (tD X.K f δ (.obj fs))) (l : fs.lookup g = some d) (hb : attributeBase e g X.env (eval e X.env) = eval e X.env := by rfl) :
    PE X (.Attribute e g pos) (tD X.K f δ d) := pe_imp (pe_fld he hb) fun σ H Q ⟨G, rp, q⟩ => ⟨G, rp, fun v d' G' H' t e z => by
  subst e
  obtain ⟨a, dx, ys, rfl, h1, h2⟩ := z.obj_inv
  obtain ⟨w, lw, zw⟩ := h2.look l
  exact ⟨a, f.C, dx, ys, w, rfl, t.gh _ _ h1, c, n, lw, q _ _ G' H' t rfl zw⟩⟩
/-! ### dicts -/
def kD : Key → D
  | .inl i => .int i
  | .inr x => .str x
theorem dat_kD {K : PySem.W.Frag} {C : Addr} {G : Hp} {k : Key} {v : V} (h : Dat K C G (kD k) v) : v = kV k := by
  cases k with
  | inl i => exact Dat.int_inv h
  | inr x => exact Dat.str_inv h
theorem x_dget {o i : Expr} {pos : Pos} {kvs : List (Key × D)} {k : Key} {d : D} (hu : X.A.units + 1 < cLine) (ho : PE X o (tD X.K f δ (.dic kvs))) (hi : PE X i (tD X.K f δ (kD k))) (h : valD kvs k = some d) (hs : NoSl i := by exact fun _ _ => rfl) :
    PE X (.Subscript o i pos) (tD X.K f δ d) := pe_imp (pe_dget hu ho hi hs) fun σ H Q ⟨G, rp, q⟩ => ⟨G, rp, fun v e G1 H1 t1 e1 z1 => ⟨G1, rp.step t1, fun u e2' G2 H2 t2 e2 z2 => by
  subst e1; subst e2
  obtain ⟨a, ys, rfl, h1, h2⟩ := z1.dic_inv
  have hv := h2.val k
  rw [h] at hv
  obtain ⟨w, ew, zw⟩ := hv
  refine ⟨a, w, rfl, ?_, q _ _ G2 H2 (t1.trans t2) rfl (zw.mono t2.gg)⟩
  rw [dat_kD z2, ← ew]
  exact DGet.k ((t2.gg.trans t2.gh) _ _ h1)⟩⟩
/-- .. of this frame's own dict -/
theorem x_dgeto {o i : Expr} {pos : Pos} {j : Nat} {kvs : List (Key × D)} {k : Key} {d : D} (hu : X.A.units + 1 < cLine) (ho : PE X o (tVar j)) (hd : dAt δ j = .ownd kvs) (hi : PE X i (tD X.K f δ (kD k))) (h : valD kvs k = some d) (hs : NoSl i := by exact fun _ _ => rfl) :
    PE X (.Subscript o i pos) (tD X.K f δ d) := pe_imp (pe_dget hu ho hi hs) fun σ H Q ⟨G, rp, q⟩ => by
  have s := rp.slot j
  rw [hd] at s
  obtain ⟨l, xs, e1, e2, e3, e4, e5, e6⟩ := s
  refine ⟨.ref l, sAt_some e1, G, rp, fun u e2' G2 H2 t2 e2'' z2 => ?_⟩
  subst e2''
  have hv := e3.val k
  rw [h] at hv
  obtain ⟨w, ew, zw⟩ := hv
  refine ⟨l, w, rfl, ?_, q _ _ G2 H2 t2 rfl (zw.mono t2.gg)⟩
  rw [dat_kD z2, ← ew]
  exact DGet.k (t2.rh _ _ e6 e2)
theorem t_din {i o : Expr} {pos : Pos} {kvs : List (Key × D)} {k : Key} (hu : X.A.units + 1 < cLine) (hi : PE X i (tD X.K f δ (kD k))) (ho : PE X o (tD X.K f δ (.dic kvs))) (h1 : behindInMarks .In o = false := by rfl) :
    PT X (.Compare i [.In] [o] pos) (tBo X.K f δ (valD kvs k).isSome) := pt_imp (pt_cmp (pc_din hu hi ho) h1) fun σ H Q ⟨G, rp, q⟩ => ⟨G, rp, fun u e2' G1 H1 t1 e1 z1 => ⟨G1, rp.step t1, fun v e G2 H2 t2 e2 z2 => by
  subst e1; subst e2
  obtain ⟨a, ys, rfl, h1, h2⟩ := z2.dic_inv
  have hv := h2.val k
  refine ⟨a, valV ys k, rfl, ?_, (valV ys k).isSome, rfl, ?_⟩
  · rw [dat_kD z1]; exact DGet.k (t2.gh _ _ h1)
  · have e : (valV ys k).isSome = (valD kvs k).isSome := by
      cases q : valD kvs k with
      | none => rw [q] at hv; rw [show valV ys k = none from hv]; rfl
      | some d => rw [q] at hv; obtain ⟨w, ew, _⟩ := hv; rw [ew]; rfl
    rw [e]
    exact q G2 H2 (t1.trans t2)⟩⟩
theorem x_dget1 {o e : Expr} {apos cpos : Pos} {kvs : List (Key × D)} {k : Key} (hu : X.A.units + 1 < cLine) (ho : PE X o (tD X.K f δ (.dic kvs))) (hi : PE X e (tD X.K f δ (kD k))) (m : M1 X o "get" apos e cpos) :
    PE X (.Call (.Attribute o "get" apos) [e] [] cpos) (tD X.K f δ ((valD kvs k).getD .non)) := pe_imp (pe_dget1 hu ho hi m) fun σ H Q ⟨G, rp, q⟩ => ⟨G, rp, fun v e G1 H1 t1 e1 z1 => by
  subst e1
  obtain ⟨a, ys, rfl, h1, h2⟩ := z1.dic_inv
  refine ⟨a, rfl, .inl ⟨ys, .inl (t1.gh _ _ h1)⟩, G1, rp.step t1, fun u e2' G2 H2 t2 e2 z2 => ?_⟩
  subst e2
  refine ⟨valV ys k, ?_, ?_⟩
  · rw [dat_kD z2]; exact DGet.k ((t2.gg.trans t2.gh) _ _ h1)
  · have hv := h2.val k
    cases qq : valD kvs k with
    | none =>
      rw [qq] at hv
      rw [show valV ys k = none from hv]
      exact q _ _ G2 H2 (t1.trans t2) (by rw [qq]; rfl) dat_non
    | some d =>
      rw [qq] at hv
      obtain ⟨w, ew, zw⟩ := hv
      rw [ew]
      exact q _ _ G2 H2 (t1.trans t2) (by rw [qq]; rfl) (zw.mono t2.gg)⟩
theorem x_dnew {pos : Pos} : PE X (.Dict [] [] pos) (tD X.K f δ (.dic [])) := pe_imp pe_dnewK fun σ H Q ⟨G, rp, q⟩ p hp => by
  have t := rp.stepNewG (o := .dK []) hp
  exact q _ _ _ _ t rfl (dat_dic upd_same datk_nil)
/-! ### what is walked -/
theorem i_tup {tg e : Expr} {ds : List D} (h : PE X e (tD X.K f δ (.tup ds))) : PI X tg e (tI X.K f δ fun l => l = ds) := pi_imp (pi_tup h) fun σ H R ⟨G, rp, q⟩ => ⟨G, rp, fun v d G' H' t e z => by
  subst e
  obtain ⟨a, xs, rfl, h1, h2⟩ := z.tup_inv
  refine ⟨a, rfl, ⟨xs, t.gh.sqT h1⟩, q _ ds G' H' t rfl fun G2 H2 ⟨s1, s2⟩ => ⟨fun i d hd => ?_, xs, s2.sqT (s1.sqT h1), by rw [← h2.len]; exact Nat.le_refl _⟩⟩
  obtain ⟨x, hx, zx⟩ := h2.get hd
  exact ⟨⟨xs, x, s2.sqT (s1.sqT h1), hx⟩, fun y H3 ⟨e3, k3⟩ => ⟨e3, by
    have := k3 xs (s2.sqT (s1.sqT h1))
    rw [hx] at this; cases this
    exact zx.mono s1⟩⟩⟩
theorem i_lst {tg e : Expr} {ds : List D} (h : PE X e (tD X.K f δ (.lst ds))) : PI X tg e (tI X.K f δ fun l => l = ds) := pi_imp (pi_list h) fun σ H R ⟨G, rp, q⟩ => ⟨G, rp, fun v d G' H' t e z => by
  subst e
  obtain ⟨a, xs, rfl, h1, h2⟩ := z.lst_inv
  refine ⟨a, rfl, ⟨xs, SqL.of (t.gh _ _ h1)⟩, q _ ds G' H' t rfl fun G2 H2 ⟨s1, s2⟩ => ⟨fun i d hd => ?_, xs, SqL.of (s2 _ _ (s1 _ _ h1)), by rw [← h2.len]; exact Nat.le_refl _⟩⟩
  obtain ⟨x, hx, zx⟩ := h2.get hd
  exact ⟨⟨xs, x, SqL.of (s2 _ _ (s1 _ _ h1)), hx⟩, fun y H3 ⟨e3, k3⟩ => ⟨e3, by
    have := k3 xs (SqL.of (s2 _ _ (s1 _ _ h1)))
    rw [hx] at this; cases this
    exact zx.mono s1⟩⟩⟩
theorem i_new {tg e : Expr} {ds : List D} (h : PE X e (tN X.K f δ ds)) : PI X tg e (tI X.K f δ fun l => l = ds) := i_lst (x_frz h)
theorem i_str {tg e : Expr} {s : Str} (h : PE X e (tD X.K f δ (.str s))) : PI X tg e (tI X.K f δ fun l => l = s.cps.toList.map fun c => D.str ⟨#[c]⟩) := pi_imp (pi_str h) fun σ H R ⟨G, rp, q⟩ => ⟨G, rp, fun v d G' H' t e z => by
  subst e
  refine ⟨s, z.str_inv, q _ _ G' H' t rfl fun G2 H2 ⟨s1, s2⟩ => ⟨fun i d hd => ?_, by show s.cps.size ≤ _; simp⟩⟩
  rw [List.getElem?_map] at hd
  have l : i < s.cps.size := by
    cases Nat.lt_or_ge i s.cps.size with
    | inl q => exact q
    | inr q => rw [List.getElem?_eq_none (by simpa using q)] at hd; cases hd
  refine ⟨l, fun y H3 ⟨e3, c, k3, e4⟩ => ⟨e3, ?_⟩⟩
  rw [Array.getElem?_toList, k3] at hd
  cases hd
  rw [e4]
  exact dat_str⟩
theorem i_rng1P {tg a : Expr} {p pos : Pos} {P : D → Prop} {R : List D → Prop} (hg : Gl X "range") (hm : X.mg "range" = none) (ha : PE X a (tP X.K f δ P)) (k : ∀ d, P d → ∃ n : Nat, d = .int (n : Int) ∧ n ≤ 100000 ∧ R (rngD 0 n)) (hs : starEach [a] X.env = [(false, eval a X.env)] := by rfl) :
    PI X tg (.Call (.Name "range" p) [a] [] pos) (tI X.K f δ R) := pi_imp (pi_range1 hg hm (pa_cons ha pa_nil hs) hs) fun σ H Rr ⟨G, rp, q⟩ => ⟨G, rp, fun v d G' H' t e z => by
  obtain ⟨n, rfl, hn, hR⟩ := k d e
  rw [z.int_inv]
  refine ⟨(n : Int), rfl, by omega, by omega, ?_⟩
  refine q _ (rngD 0 n) G' H' t hR fun G2 H2 ⟨s1, s2⟩ => ⟨fun i d hd => ?_, ?_⟩
  · obtain ⟨l, rfl⟩ := rngD_get hd
    exact ⟨by show i < (n : Int).toNat; omega, fun y H3 ⟨e3, e4⟩ => ⟨e3, by rw [e4]; exact dat_int⟩⟩
  · show (n : Int).toNat ≤ _
    rw [rngD_len]; omega⟩
theorem i_rng1 {tg a : Expr} {p pos : Pos} {n : Nat} (hn : n ≤ 100000) (hg : Gl X "range") (hm : X.mg "range" = none) (ha : PE X a (tD X.K f δ (.int (n : Int)))) (hs : starEach [a] X.env = [(false, eval a X.env)] := by rfl) :
    PI X tg (.Call (.Name "range" p) [a] [] pos) (tI X.K f δ fun l => l = rngD 0 n) := i_rng1P hg hm ha (fun d h => ⟨n, h, hn, rfl⟩) hs
theorem i_rng2 {tg a b : Expr} {p pos : Pos} {m n : Int} (h1 : -100000 ≤ m ∧ m ≤ 100000) (h2 : -100000 ≤ n ∧ n ≤ 100000) (hg : Gl X "range") (hm : X.mg "range" = none) (ha : PE X a (tD X.K f δ (.int m))) (hb : PE X b (tD X.K f δ (.int n)))
    (hs : starEach [a, b] X.env = [(false, eval a X.env), (false, eval b X.env)] := by rfl) (hs2 : starEach [b] X.env = [(false, eval b X.env)] := by rfl) :
    PI X tg (.Call (.Name "range" p) [a, b] [] pos) (tI X.K f δ fun l => l = rngD m (n - m).toNat) := pi_imp (pi_range2 hg hm (pa_cons ha (pa_cons hb pa_nil hs2) (hs.trans (by rw [hs2]))) hs hs2) fun σ H Rr ⟨G, rp, q⟩ => ⟨G, rp, fun v d G1 H1 t1 e z => ⟨G1, rp.step t1, fun v2 d2 G2 H2 t2 e2 z2 => by
  subst e; subst e2
  rw [z.int_inv, z2.int_inv]
  refine ⟨m, n, rfl, ⟨by omega, by omega, by omega, by omega⟩, q _ _ G2 H2 (t1.trans t2) rfl fun G3 H3 ⟨s1, s2⟩ => ⟨fun i d hd => ?_, ?_⟩⟩
  · obtain ⟨l, rfl⟩ := rngD_get hd
    exact ⟨l, fun y H3 ⟨e3, e4⟩ => ⟨e3, by rw [e4]; exact dat_int⟩⟩
  · show (n - m).toNat ≤ _
    rw [rngD_len]; exact Nat.le_refl _⟩⟩
theorem i_rev {tg e : Expr} {p pos : Pos} {ds : List D} (hg : Gl X "reversed") (hm : X.mg "reversed" = none) (he : PE X e (tD X.K f δ (.tup ds))) (hs : starEach [e] X.env = (false, eval e X.env) :: starEach [] X.env := by rfl) :
    PI X tg (.Call (.Name "reversed" p) [e] [] pos) (tI X.K f δ fun l => l = ds.reverse) := pi_imp (RT.pi_revA hg hm he hs) fun σ H Rr ⟨G, rp, q⟩ => ⟨G, rp, fun v d G' H' t e z => by
  subst e
  obtain ⟨a, xs, rfl, h1, h2⟩ := z.tup_inv
  refine ⟨a, xs, rfl, .inr ⟨t.gh.sqT h1, q _ _ G' H' t rfl fun G2 H2 ⟨s1, s2⟩ => ⟨fun i d hd => ?_, ?_⟩⟩⟩
  · have l : i < ds.length := by
      cases Nat.lt_or_ge i ds.length with
      | inl q => exact q
      | inr q => rw [List.getElem?_eq_none (by simpa using q)] at hd; cases hd
    rw [List.getElem?_reverse l] at hd
    obtain ⟨x, hx, zx⟩ := h2.get hd
    rw [h2.len] at hx l
    exact ⟨⟨l, xs, x, s2.sqT (s1.sqT h1), hx⟩, fun y H3 ⟨e3, k3⟩ => ⟨e3, by
      have := k3 xs (s2.sqT (s1.sqT h1))
      rw [hx] at this; cases this
      exact zx.mono s1⟩⟩
  · show xs.length ≤ _
    rw [List.length_reverse, h2.len]; exact Nat.le_refl _⟩
/-- for a comprehension -/
theorem i_s {tg e : Expr} {P : List D → Prop} (h : PI X tg e (tI X.K f δ P)) : PI X tg e (tIs X.K f δ P) := pi_imp h fun σ H R ⟨G, rp, q⟩ => ⟨G, rp, fun J ds G' H' t p it => q J ds G' H' t p fun G2 H2 t2 => it G2 H2 ⟨t2.gg, t2.gh⟩⟩
theorem i_own {tg e : Expr} {i : Nat} {ds : List D} (h : PE X e (tVar i)) (hd : dAt δ i = .own ds) : PI X tg e (tIs X.K f δ fun l => l = ds) := pi_imp (pi_list (o_own (f := f) (δ := δ) h hd)) fun σ H R ⟨G, rp, q⟩ => ⟨G, rp, fun a xs G' H' t s z =>
  ⟨a, rfl, ⟨xs, s G' H' (Step.refl t.gh)⟩, q _ ds G' H' t rfl fun G2 H2 t2 => ⟨fun i d hd => by
    obtain ⟨x, hx, zx⟩ := z.get hd
    exact ⟨⟨xs, x, s G2 H2 t2, hx⟩, fun y H3 ⟨e3, k3⟩ => ⟨e3, by
      have := k3 xs (s G2 H2 t2)
      rw [hx] at this; cases this
      exact zx.mono t2.gg⟩⟩, xs, s G2 H2 t2, by rw [← z.len]; exact Nat.le_refl _⟩⟩⟩
end
end Un
set_option maxHeartbeats 4000000
/-! Un: comprehensions, statements, defs, calls. -/
namespace Un
open PySem L2
/-! ### comprehensions -/
theorem Step.hid {f : Fm} {G H G' H' : Hp} {p : Addr} {o : HO} (t : Step f G H G' H') (hp : H p = none) (hg : G' p = none) (hm : ¬ f.M p) : Step f G H G' (upd H' p o) where
  gg := t.gg
  gh := t.gh.upd1 hg
  rh := fun a u m h => by rw [upd_ne (ne_of_none h hp)]; exact t.rh a u m h
  rm := fun a h => by
    by_cases e : a = p
    · subst e; exact absurd hp h
    · rw [upd_ne e]; exact t.rm a h
  fr := t.fr
  inv := fun i => f.keep _ _ _ _ (Sub.refl G') (fun a m => upd_ne fun e => hm (e ▸ m)) (t.inv i)
section
variable {X : Cx} {f : Fm} {δ : List Sl}
abbrev Tri := List D × Nat × D
def AtT (P : List D → Prop) (a : Tri) : Prop := P a.1 ∧ a.1[a.2.1]? = some a.2.2
def ttLc (K : PySem.W.Frag) (f : Fm) (δ : List Sl) (j : Nat) (P : List D → Prop) (b : Tri → Bool) : TT := fun σ H Q => ∃ a : Tri, AtT P a ∧ tBo K f (δ.set j (.dat a.2.2)) (b a) σ H Q
def teLc (K : PySem.W.Frag) (f : Fm) (δ : List Sl) (j : Nat) (P : List D → Prop) (b : Tri → Bool) (Pe : Tri → D → Prop) : TE := fun σ H Q => ∃ a : Tri, (AtT P a ∧ b a = true) ∧ tP K f (δ.set j (.dat a.2.2)) (Pe a) σ H Q
theorem lc_read {K : PySem.W.Frag} {j : Nat} {P : List D → Prop} {b : Tri → Bool} {Pe : Tri → D → Prop} {PA : List D → Prop} (Acc : List D → Nat → List D → Prop) (hj : j < δ.length)
    (h0 : ∀ ds, P ds → ds.length ≤ 100000 ∧ Acc ds 0 [])
    (hs : ∀ ds i d acc, P ds → ds[i]? = some d → Acc ds i acc → (b (ds, i, d) = false → Acc ds (i + 1) acc) ∧ (b (ds, i, d) = true → ∀ e, Pe (ds, i, d) e → Acc ds (i + 1) (acc ++ [e])))
    (hd : ∀ ds acc, P ds → Acc ds ds.length acc → PA acc) {σ : L2.St} {H : Hp} {Q : VK} (h : tNP K f δ PA σ H Q) :
    tLc (tIs K f δ P) (gName j) (ttLc K f δ j P b) (teLc K f δ j P b Pe) [j] σ H Q := by
  obtain ⟨G, rp, q⟩ := h
  refine ⟨G, rp, fun J ds G1 H1 t1 p1 it Dl hDl => ?_⟩
  have rp1 := rp.step t1
  obtain ⟨hH, hM⟩ := rp.back t1 hDl
  have hG1 : G1 Dl = none := t1.gh.none hDl
  refine ⟨fun i m H' => i + m = ds.length ∧ ∃ acc xs G', Step f G1 H1 G' H' ∧ H' Dl = some (.lst xs) ∧ G' Dl = none ∧ Acc ds i acc ∧ acc.length ≤ i ∧ Dats K f.C G' acc xs,
    ⟨ds.length, by omega, [], [], G1, rp1.stepNew hDl, upd_same, hG1, (h0 ds p1).2, Nat.le_refl _, dats_nil⟩, ?_⟩
  rintro i m H' ⟨him, acc, xs, G', t, hx, hg, ha, hl, z⟩
  cases m with
  | zero =>
    have e : i = ds.length := by omega
    subst e
    exact .inl ⟨(it G' H' t).2, q Dl xs acc G' H' (t1.trans t) hH hg hM hx (hd ds acc p1 ha) z⟩
  | succ m =>
    have l : i < ds.length := by omega
    have hget : ds[i]? = some ds[i] := List.getElem?_eq_getElem l
    obtain ⟨go, yl⟩ := (it G' H' t).1 i _ hget
    refine .inr ⟨go, fun H2 => ∃ m', m' < m + 1 ∧ i + 1 + m' = ds.length ∧ ∃ acc xs G', Step f G1 H1 G' H2 ∧ H2 Dl = some (.lst xs) ∧ G' Dl = none ∧ Acc ds (i + 1) acc ∧ acc.length ≤ i + 1 ∧ Dats K f.C G' acc xs, fun H2 h2 => h2, fun x H3 hy => ?_⟩
    obtain ⟨rfl, zd⟩ := yl x H3 hy
    have rj : Rep K f (σ.set j (some x)) (δ.set j (.dat ds[i])) G' H3 := (rp1.step t).setDat hj zd
    have es : (wipe σ [j]).set j (some x) = σ.set j (some x) := by show (σ.set j none).set j (some x) = _; rw [List.set_set]
    have hsx := hs ds i ds[i] acc p1 hget ha
    have at1 : AtT P (ds, i, ds[i]) := ⟨p1, hget⟩
    show wipe ((wipe σ [j]).set j (some x)) [j] = wipe σ [j] ∧ _
    refine ⟨by rw [es]; show (σ.set j (some x)).set j none = σ.set j none; rw [List.set_set], ?_⟩
    rw [es]
    refine ⟨(ds, i, ds[i]), at1, G', rj, fun G2 H2 t2 => ?_⟩
    cases hb : b (ds, i, ds[i]) with
    | false =>
      refine iteF ⟨m, by omega, by omega, acc, xs, G2, t.trans t2, t2.rh _ _ hM hx, ?_, hsx.1 hb, by omega, z.mono t2.gg⟩
      cases q : G2 Dl with
      | none => rfl
      | some o => exact absurd hg (t2.fr Dl (ne_none hx) (ne_none q))
    | true =>
      refine iteT ⟨(ds, i, ds[i]), ⟨at1, hb⟩, G2, rj.step t2, fun v e G3 H4 t3 pe ze => ?_⟩
      have t23 := t2.trans t3
      have hx4 := t23.rh _ _ hM hx
      have hg3 : G3 Dl = none := by
        cases q : G3 Dl with
        | none => rfl
        | some o => exact absurd hg (t23.fr Dl (ne_none hx) (ne_none q))
      have hz := (h0 ds p1).1
      refine ⟨xs, hx4, by rw [← z.len]; exact Nat.lt_of_lt_of_le (show acc.length < 100001 by omega) (by decide), m, by omega, by omega, acc ++ [e], xs ++ [v], G3, (t.trans t23).hid hDl hg3 hM, upd_same, hg3, hsx.2 hb e pe, ?_, (z.mono t23.gg).app (dats_cons ze dats_nil)⟩
      rw [List.length_append, List.length_singleton]
      omega
/-- [elt for x in iter if ..] -/
theorem x_lcP {j : Nat} {xn : Str} {px pos : Pos} {elt iter : Expr} {ifs : List Expr} {scope : Scope} {P : List D → Prop} {b : Tri → Bool} {Pe : Tri → D → Prop} {PA : List D → Prop} (Acc : List D → Nat → List D → Prop)
    (hc : X.calm = true) (hN : X.N.Nodup) (hj : j < δ.length) (hi : PI X (.Name xn px) iter (tIs X.K f δ P)) (ok : BlkOk X.N X.env.scope scope [(xn, j)])
    (hg : ∀ (s : Shared) (H : Hp) (C : Addr) (cl : List (Str × Addr)) (fp : List Addr), PG (X.blk s H scope (compEnvC scope cl C X.env) fp) (.Name xn px) (gName j))
    (ht : ∀ a : Tri, AtT P a → ∀ (s : Shared) (H : Hp) (C : Addr) (cl : List (Str × Addr)) (fp : List Addr), PTs (X.blk s H scope (compEnvC scope cl C X.env) fp) ifs (tBo X.K f (δ.set j (.dat a.2.2)) (b a)))
    (he : ∀ a : Tri, AtT P a ∧ b a = true → ∀ (s : Shared) (H : Hp) (C : Addr) (cl : List (Str × Addr)) (fp : List Addr), PE (X.blk s H scope (compEnvC scope cl C X.env) fp) elt (tP X.K f (δ.set j (.dat a.2.2)) (Pe a)))
    (h0 : ∀ ds, P ds → ds.length ≤ 100000 ∧ Acc ds 0 [])
    (hs : ∀ ds i d acc, P ds → ds[i]? = some d → Acc ds i acc → (b (ds, i, d) = false → Acc ds (i + 1) acc) ∧ (b (ds, i, d) = true → ∀ e, Pe (ds, i, d) e → Acc ds (i + 1) (acc ++ [e])))
    (hd : ∀ ds acc, P ds → Acc ds ds.length acc → PA acc) (hf : ∀ x, foldedSetIterable iter X.env x = pure x := by intro _; rfl) :
    PE X (.ListComp elt [⟨.Name xn px, iter, ifs, 0⟩] scope pos) (tNP X.K f δ PA) :=
  pe_imp (pe_lc (own := [(xn, j)]) hc hN hi ok hg (fun s H C cl fp => pts_ex fun a ha => ht a ha s H C cl fp) (fun s H C cl fp => pe_ex fun a ha => he a ha s H C cl fp) hf) fun _ _ _ h => lc_read Acc hj h0 hs hd h
/-- of known items: what each gives -/
def given (b : Nat → D → Bool) (g : Nat → D → D) (ds : List D) (n : Nat) : List D := ((List.range n).filterMap fun i => (ds[i]?).bind fun d => if b i d then some (g i d) else none)
theorem given_succ (b : Nat → D → Bool) (g : Nat → D → D) (ds : List D) (n : Nat) {d : D} (h : ds[n]? = some d) : given b g ds (n + 1) = given b g ds n ++ (if b n d then [g n d] else []) := by
  unfold given
  rw [List.range_succ, List.filterMap_append]
  congr 1
  simp only [List.filterMap_cons, List.filterMap_nil, h, Option.bind_some]
  split <;> simp_all
theorem given_fm (b : D → Bool) (h : D → D) (ds : List D) : given (fun _ d => b d) (fun _ d => h d) ds ds.length = (ds.filter b).map h := by
  have key : ∀ n, n ≤ ds.length → given (fun _ d => b d) (fun _ d => h d) ds n = ((ds.take n).filter b).map h := by
    intro n
    induction n with
    | zero => intro _; rfl
    | succ n ih =>
      intro hn
      have l : n < ds.length := by omega
      rw [given_succ _ _ _ _ (List.getElem?_eq_getElem l), ih (by omega), List.take_add_one, List.getElem?_eq_getElem l, List.filter_append, List.map_append]
      congr 1
      show _ = List.map h (List.filter b [ds[n]])
      rw [List.filter_cons]
      split <;> rfl
  rw [key ds.length (Nat.le_refl _), List.take_length]
theorem given_map (h : D → D) (ds : List D) : given (fun _ _ => true) (fun _ d => h d) ds ds.length = ds.map h := by
  have e := given_fm (fun _ => true) h ds
  rw [e, List.filter_eq_self.mpr (fun _ _ => rfl)]
theorem given_rng (g : Nat → D → D) (lo : Int) (n : Nat) : given (fun _ _ => true) g (rngD lo n) (rngD lo n).length = (List.range n).map fun i => g i (.int (lo + (i : Nat))) := by
  have key : ∀ m, m ≤ n → given (fun _ _ => true) g (rngD lo n) m = (List.range m).map fun i => g i (.int (lo + (i : Nat))) := by
    intro m
    induction m with
    | zero => intro _; rfl
    | succ m ih =>
      intro hn
      rw [given_succ _ _ _ _ (rngD_at (lo := lo) (n := n) (i := m) (by omega)), ih (by omega), List.range_succ, List.map_append]
      rfl
  rw [rngD_len, key n (Nat.le_refl _)]
theorem x_lc {j : Nat} {xn : Str} {px pos : Pos} {elt iter : Expr} {ifs : List Expr} {scope : Scope} {ds : List D} (b : Nat → D → Bool) (g : Nat → D → D) (out : List D)
    (hc : X.calm = true) (hN : X.N.Nodup) (hj : j < δ.length) (hz : ds.length ≤ 100000) (hi : PI X (.Name xn px) iter (tIs X.K f δ fun l => l = ds)) (ok : BlkOk X.N X.env.scope scope [(xn, j)])
    (hg : ∀ (s : Shared) (H : Hp) (C : Addr) (cl : List (Str × Addr)) (fp : List Addr), PG (X.blk s H scope (compEnvC scope cl C X.env) fp) (.Name xn px) (gName j))
    (ht : ∀ i d, ds[i]? = some d → ∀ (s : Shared) (H : Hp) (C : Addr) (cl : List (Str × Addr)) (fp : List Addr), PTs (X.blk s H scope (compEnvC scope cl C X.env) fp) ifs (tBo X.K f (δ.set j (.dat d)) (b i d)))
    (he : ∀ i d, ds[i]? = some d → b i d = true → ∀ (s : Shared) (H : Hp) (C : Addr) (cl : List (Str × Addr)) (fp : List Addr), PE (X.blk s H scope (compEnvC scope cl C X.env) fp) elt (tD X.K f (δ.set j (.dat d)) (g i d)))
    (ho : given b g ds ds.length = out) (hf : ∀ x, foldedSetIterable iter X.env x = pure x := by intro _; rfl) :
    PE X (.ListComp elt [⟨.Name xn px, iter, ifs, 0⟩] scope pos) (tN X.K f δ out) :=
  x_lcP (P := fun l => l = ds) (b := fun a => b a.2.1 a.2.2) (Pe := fun a e => e = g a.2.1 a.2.2) (fun l i acc => acc = given b g ds i) hc hN hj hi ok hg
    (fun a ⟨h1, h2⟩ => ht a.2.1 a.2.2 (by rw [← h1]; exact h2)) (fun a ⟨⟨h1, h2⟩, h3⟩ => he a.2.1 a.2.2 (by rw [← h1]; exact h2) h3)
    (fun l e => ⟨by rw [e]; exact hz, rfl⟩) (fun l i d acc e hd ha => by
      subst e
      rw [given_succ b g l i hd, ha]
      exact ⟨fun hb => by simp [show b i d = false from hb], fun hb e he => by rw [if_pos (show b i d = true from hb), he]⟩)
    (fun l acc e ha => by subst e; rw [ha, ho]) hf
/-! ### statements -/
theorem s_cons {st : Stmt} {rest : List Stmt} {N1 N : List Sl → Prop} {R : V → Hp → Prop} (h1 : PS X st (tX X.K f δ N1 R)) (h2 : ∀ δ1, N1 δ1 → PSs X rest (tX X.K f δ1 N R)) : PSs X (st :: rest) (tX X.K f δ N R) :=
  pss_imp (pss_cons h1 (pss_ex h2)) fun Dn σ H ⟨G, rp, hn, hr⟩ => ⟨G, rp, fun δ' σ' G' H' n s rp' => ⟨δ', n, G', rp', fun δ2 σ2 G2 H2 n2 s2 rp2 => hn δ2 σ2 G2 H2 n2 (s.trans s2) rp2, hr⟩, hr⟩
/-- .. whose slots are known -/
theorem s_seq {st : Stmt} {rest : List Stmt} {δ1 : List Sl} {N : List Sl → Prop} {R : V → Hp → Prop} (h1 : PS X st (tX X.K f δ (fun e => e = δ1) R)) (h2 : PSs X rest (tX X.K f δ1 N R)) : PSs X (st :: rest) (tX X.K f δ N R) :=
  s_cons h1 fun _ e => by rw [e]; exact h2
theorem s_one {st : Stmt} {N : List Sl → Prop} {R : V → Hp → Prop} (h1 : PS X st (tX X.K f δ N R)) : PSs X [st] (tX X.K f δ N R) := pss_one h1
theorem s_nil {N : List Sl → Prop} {R : V → Hp → Prop} (h : N δ) : PSs X [] (tX X.K f δ N R) := pss_imp pss_nil fun Dn σ H ⟨G, rp, hn, hr⟩ => hn δ σ G H h (Sub.refl G) rp
theorem s_weak {st : Stmt} {N N' : List Sl → Prop} {R : V → Hp → Prop} (h1 : PS X st (tX X.K f δ N R)) (k : ∀ e, N e → N' e) : PS X st (tX X.K f δ N' R) := ps_imp h1 fun Dn σ H ⟨G, rp, hn, hr⟩ => ⟨G, rp, fun δ' σ' G' H' n s rp' => hn δ' σ' G' H' (k δ' n) s rp', hr⟩
theorem ss_weak {st : List Stmt} {N N' : List Sl → Prop} {R : V → Hp → Prop} (h1 : PSs X st (tX X.K f δ N R)) (k : ∀ e, N e → N' e) : PSs X st (tX X.K f δ N' R) := pss_imp h1 fun Dn σ H ⟨G, rp, hn, hr⟩ => ⟨G, rp, fun δ' σ' G' H' n s rp' => hn δ' σ' G' H' (k δ' n) s rp', hr⟩
/-- x = e -/
theorem s_setP {i : Nat} {y : Str} {e : Expr} {pos' pos : Pos} {P : D → Prop} {R : V → Hp → Prop} (hN : X.N.Nodup) (hi : X.N[i]? = some y) (hx : Loc X.env.scope y) (hl : i < δ.length) (he : PE X e (tP X.K f δ P)) (hs : swapsWith e (some (.Name y pos')) pos.line X.env = pure false := by rfl)
    (hf : X.fn y = true ∨ X.env.scope.names.lookup y = some .local := by first | exact .inl rfl | exact .inr rfl | assumption) : PS X (.Assign [.Name y pos'] e pos) (tX X.K f δ (fun δ' => ∃ d, P d ∧ δ' = δ.set i (.dat d)) R) :=
  ps_imp (ps_set hN hi hx he hs hf) fun Dn σ H ⟨G, rp, hn, hr⟩ => ⟨G, rp, fun v d G' H' t p z => hn _ _ G' H' ⟨d, p, rfl⟩ t.gg ((rp.step t).setDat hl z)⟩
theorem s_set {i : Nat} {y : Str} {e : Expr} {pos' pos : Pos} {d : D} {δ1 : List Sl} {R : V → Hp → Prop} (hN : X.N.Nodup) (hi : X.N[i]? = some y) (hx : Loc X.env.scope y) (hl : i < δ.length) (he : PE X e (tD X.K f δ d)) (h1 : δ.set i (.dat d) = δ1) (hs : swapsWith e (some (.Name y pos')) pos.line X.env = pure false := by rfl)
    (hf : X.fn y = true ∨ X.env.scope.names.lookup y = some .local := by first | exact .inl rfl | exact .inr rfl | assumption) : PS X (.Assign [.Name y pos'] e pos) (tX X.K f δ (fun δ' => δ' = δ1) R) :=
  s_weak (s_setP hN hi hx hl he hs hf) fun δ' ⟨d', e, k⟩ => by rw [k, e, h1]
/-- x = e, a new list: this frame's own -/
theorem s_setNP {i : Nat} {y : Str} {e : Expr} {pos' pos : Pos} {P : List D → Prop} {R : V → Hp → Prop} (hN : X.N.Nodup) (hi : X.N[i]? = some y) (hx : Loc X.env.scope y) (hl : i < δ.length) (he : PE X e (tNP X.K f δ P)) (hs : swapsWith e (some (.Name y pos')) pos.line X.env = pure false := by rfl)
    (hf : X.fn y = true ∨ X.env.scope.names.lookup y = some .local := by first | exact .inl rfl | exact .inr rfl | assumption) : PS X (.Assign [.Name y pos'] e pos) (tX X.K f δ (fun δ' => ∃ ds, P ds ∧ δ' = δ.set i (.own ds)) R) :=
  ps_imp (ps_set hN hi hx he hs hf) fun Dn σ H ⟨G, rp, hn, hr⟩ => ⟨G, rp, fun p xs ds G' H' t hp hg hM ho pd z => hn _ _ G' H' ⟨ds, pd, rfl⟩ t.gg (rp.setOwn t hl hp ⟨p, xs, rfl, ho, z, hg, by
    cases q : f.H0 p with
    | none => rfl
    | some o => exact absurd hp (rp.st.rm p (ne_none q)), hM⟩)⟩
theorem s_setN {i : Nat} {y : Str} {e : Expr} {pos' pos : Pos} {ds : List D} {δ1 : List Sl} {R : V → Hp → Prop} (hN : X.N.Nodup) (hi : X.N[i]? = some y) (hx : Loc X.env.scope y) (hl : i < δ.length) (he : PE X e (tN X.K f δ ds)) (h1 : δ.set i (.own ds) = δ1) (hs : swapsWith e (some (.Name y pos')) pos.line X.env = pure false := by rfl)
    (hf : X.fn y = true ∨ X.env.scope.names.lookup y = some .local := by first | exact .inl rfl | exact .inr rfl | assumption) : PS X (.Assign [.Name y pos'] e pos) (tX X.K f δ (fun δ' => δ' = δ1) R) :=
  s_weak (s_setNP hN hi hx hl he hs hf) fun δ' ⟨d', e, k⟩ => by rw [k, e, h1]
/-- x = {}: an own dict -/
theorem s_setD {i : Nat} {y : Str} {dp pos' pos : Pos} {δ1 : List Sl} {R : V → Hp → Prop} (hN : X.N.Nodup) (hi : X.N[i]? = some y) (hx : Loc X.env.scope y) (hl : i < δ.length) (h1 : δ.set i (.ownd []) = δ1) (hs : swapsWith (.Dict [] [] dp) (some (.Name y pos')) pos.line X.env = pure false := by rfl)
    (hf : X.fn y = true ∨ X.env.scope.names.lookup y = some .local := by first | exact .inl rfl | exact .inr rfl | assumption) : PS X (.Assign [.Name y pos'] (.Dict [] [] dp) pos) (tX X.K f δ (fun δ' => δ' = δ1) R) :=
  ps_imp (ps_set hN hi hx pe_dnewK hs hf) fun Dn σ H ⟨G, rp, hn, hr⟩ p hp => hn _ _ G _ h1 (Sub.refl G) (rp.setOwn (rp.stepNew hp) hl hp ⟨p, [], rfl, upd_same, datk_nil, rp.gh.none hp, by
    cases q : f.H0 p with
    | none => rfl
    | some o => exact absurd hp (rp.st.rm p (ne_none q)), fun m => (rp.mM p m).2 hp⟩)
/-- x = [.. for ..] on one line -/
theorem s_setLcP {i j : Nat} {y xn : Str} {py px pos spos : Pos} {elt iter : Expr} {ifs : List Expr} {scope : Scope} {P : List D → Prop} {b : Tri → Bool} {Pe : Tri → D → Prop} {PA : List D → Prop} {R : V → Hp → Prop} (Acc : List D → Nat → List D → Prop)
    (hc : X.calm = true) (hN : X.N.Nodup) (hy : X.N[i]? = some y) (hyl : X.env.scope.names.lookup y = some .local) (hl : i < δ.length) (hj : j < δ.length)
    (hsw : swapsWith (.ListComp elt [⟨.Name xn px, iter, ifs, 0⟩] scope pos) (some (.Name y py)) spos.line X.env = pure true) (hi : PI X (.Name xn px) iter (tIs X.K f δ P)) (ok : BlkOk X.N X.env.scope scope [(xn, j)])
    (hg : ∀ (s : Shared) (H : Hp) (C : Addr) (cl : List (Str × Addr)) (fp : List Addr), PG (X.blk s H scope (compEnvC scope cl C X.env) fp) (.Name xn px) (gName j))
    (ht : ∀ a : Tri, AtT P a → ∀ (s : Shared) (H : Hp) (C : Addr) (cl : List (Str × Addr)) (fp : List Addr), PTs (X.blk s H scope (compEnvC scope cl C X.env) fp) ifs (tBo X.K f (δ.set j (.dat a.2.2)) (b a)))
    (he : ∀ a : Tri, AtT P a ∧ b a = true → ∀ (s : Shared) (H : Hp) (C : Addr) (cl : List (Str × Addr)) (fp : List Addr), PE (X.blk s H scope (compEnvC scope cl C X.env) fp) elt (tP X.K f (δ.set j (.dat a.2.2)) (Pe a)))
    (h0 : ∀ ds, P ds → ds.length ≤ 100000 ∧ Acc ds 0 [])
    (hs : ∀ ds i d acc, P ds → ds[i]? = some d → Acc ds i acc → (b (ds, i, d) = false → Acc ds (i + 1) acc) ∧ (b (ds, i, d) = true → ∀ e, Pe (ds, i, d) e → Acc ds (i + 1) (acc ++ [e])))
    (hd : ∀ ds acc, P ds → Acc ds ds.length acc → PA acc) (hf : ∀ x, foldedSetIterable iter X.env x = pure x := by intro _; rfl) :
    PS X (.Assign [.Name y py] (.ListComp elt [⟨.Name xn px, iter, ifs, 0⟩] scope pos) spos) (tX X.K f δ (fun δ' => ∃ ds, PA ds ∧ δ' = δ.set i (.own ds)) R) :=
  ps_imp (ps_setLc (own := [(xn, j)]) hc hN hy hyl hsw hi ok hg (fun s H C cl fp => pts_ex fun a ha => ht a ha s H C cl fp) (fun s H C cl fp => pe_ex fun a ha => he a ha s H C cl fp) hf)
    fun Dn σ H ⟨G, rp, hn, hr⟩ => lc_read Acc hj h0 hs hd ⟨G, rp, fun p xs ds G' H' t hp hg hM ho pd z => hn _ _ G' H' ⟨ds, pd, rfl⟩ t.gg (rp.setOwn t hl hp ⟨p, xs, rfl, ho, z, hg, by
      cases q : f.H0 p with
      | none => rfl
      | some o => exact absurd hp (rp.st.rm p (ne_none q)), hM⟩)⟩
/-- return e -/
theorem s_ret {e : Expr} {pos : Pos} {P : D → Prop} {N : List Sl → Prop} (he : PE X e (tP X.K f δ P)) : PS X (.Return (some e) pos) (tX X.K f δ N (retP X.K f P)) :=
  ps_imp (ps_ret he) fun Dn σ H ⟨G, rp, hn, hr⟩ => ⟨G, rp, fun v d G' H' t p z => hr v H' ⟨d, G', rp.st.trans t, p, z⟩⟩
theorem s_retN {e : Expr} {pos : Pos} {P : List D → Prop} {N : List Sl → Prop} (he : PE X e (tNP X.K f δ P)) : PS X (.Return (some e) pos) (tX X.K f δ N (retNP X.K f P)) :=
  ps_imp (ps_ret he) fun Dn σ H ⟨G, rp, hn, hr⟩ => ⟨G, rp, fun p xs ds G' H' t hp hg hM ho pd z => hr _ H' ⟨p, xs, ds, G', rfl, rp.st.trans t, by
    cases q : f.H0 p with
    | none => rfl
    | some o => exact absurd hp (rp.st.rm p (ne_none q)), hg, hM, ho, pd, z⟩⟩
/-- return of an own list -/
theorem s_retO {e : Expr} {i : Nat} {pos : Pos} {ds : List D} {N : List Sl → Prop} (he : PE X e (tVar i)) (hd : dAt δ i = .own ds) : PS X (.Return (some e) pos) (tX X.K f δ N (retN X.K f ds)) :=
  ps_imp (ps_ret he) fun Dn σ H ⟨G, rp, hn, hr⟩ => by
    have s := rp.slot i
    rw [hd] at s
    obtain ⟨l, xs, e1, e2, e3, e4, e5, e6⟩ := s
    exact ⟨.ref l, sAt_some e1, hr _ H ⟨l, xs, ds, G, rfl, rp.st, e5, e4, e6, e2, rfl, e3⟩⟩
theorem s_if {c : Expr} {a b : List Stmt} {pos : Pos} {k : Bool} {N : List Sl → Prop} {R : V → Hp → Prop} (hc : PT X c (tBo X.K f δ k)) (ha : k = true → PSs X a (tX X.K f δ N R)) (hb : k = false → PSs X b (tX X.K f δ N R)) : PS X (.If c a b pos) (tX X.K f δ N R) :=
  ps_imp (ps_if hc (pss_given ha) (pss_given hb)) fun Dn σ H ⟨G, rp, hn, hr⟩ => ⟨G, rp, fun G' H' t => by
    have hn' : ∀ δ' σ' G2 H2, N δ' → Sub G' G2 → Rep X.K f σ' δ' G2 H2 → Dn.nx σ' H2 := fun δ' σ' G2 H2 n s rp' => hn δ' σ' G2 H2 n (t.gg.trans s) rp'
    cases k with
    | true => exact iteT ⟨rfl, G', rp.step t, hn', hr⟩
    | false => exact iteF ⟨rfl, G', rp.step t, hn', hr⟩⟩
/-- an expression whose value is dropped -/
theorem s_drop {e : Expr} {pos : Pos} {P : D → Prop} {R : V → Hp → Prop} (he : PE X e (tP X.K f δ P)) (hs : swapsWith e none pos.line X.env = pure false := by rfl) : PS X (.Expr e pos) (tX X.K f δ (fun δ' => δ' = δ) R) :=
  ps_imp (ps_expr he hs) fun Dn σ H ⟨G, rp, hn, hr⟩ => ⟨G, rp, fun v d G' H' t p z => hn δ σ G' H' rfl t.gg (rp.step t)⟩
/-- xs.append(e), xs an own list -/
theorem s_appP {o e : Expr} {i : Nat} {apos cpos pos : Pos} {ds : List D} {P : D → Prop} {R : V → Hp → Prop} (ho : PE X o (tVar i)) (hd : dAt δ i = .own ds) (hl : i < δ.length) (hz : ds.length < 100000) (he : PE X e (tP X.K f δ P))
    (hbase : attributeBase o "append" X.env (eval o X.env) = eval o X.env := by rfl)
    (hfew : ((backTo cpos (starEach (e :: []) X.env)).all (fun x => !x.1) && (backToKw cpos (keywordEach [] X.env)).all (fun x => x.1.isSome)
      && decide ((e :: []).length + ([] : List Keyword).length + (if ([] : List Keyword).isEmpty then 0 else 1) < 30)) = true := by rfl)
    (hline : (apos.endLine == cpos.line) = true := by rfl) (hst : starEach (e :: []) X.env = (false, eval e X.env) :: starEach [] X.env := by rfl) (hplain : (backTo cpos (starEach [] X.env)).any (·.1) = false := by rfl)
    (hs : swapsWith (.Call (.Attribute o "append" apos) [e] [] cpos) none pos.line X.env = pure false := by rfl) :
    PS X (.Expr (.Call (.Attribute o "append" apos) [e] [] cpos) pos) (tX X.K f δ (fun δ' => ∃ d, P d ∧ δ' = δ.set i (.own (ds ++ [d]))) R) :=
  ps_imp (ps_expr (pe_bm PySem.F.plainAttrs_list PySem.F.slot_list_append PySem.F.type_list_append mt_append ho (pa_cons he pa_nil hst) hbase hfew hline hst hplain) hs) fun Dn σ H ⟨G, rp, hn, hr⟩ => by
    have s := rp.slot i
    rw [hd] at s
    obtain ⟨l, xs, e1, e2, e3, e4, e5, e6⟩ := s
    refine ⟨.ref l, sAt_some e1, .inl ⟨rfl, xs, SqL.of e2⟩, G, rp, fun v d G' H' t p z => ?_⟩
    have rp' := rp.step t
    have s' := rp'.slot i
    rw [hd] at s'
    obtain ⟨l', xs', f1, f2, f3, f4, f5, f6⟩ := s'
    rw [e1] at f1; cases f1
    refine ⟨l, xs', v, rfl, rfl, f2, by rw [← f3.len]; exact Nat.lt_trans hz (by decide), ?_⟩
    exact hn _ _ G' _ ⟨d, p, rfl⟩ t.gg (rp'.chOwn hl (by rw [hd]; rfl) e1 f4 f5 f6 rfl ⟨l, xs' ++ [v], rfl, upd_same, f3.app (dats_cons z dats_nil), f4, f5, f6⟩)
theorem s_app {o e : Expr} {i : Nat} {apos cpos pos : Pos} {ds : List D} {d : D} {δ1 : List Sl} {R : V → Hp → Prop} (ho : PE X o (tVar i)) (hd : dAt δ i = .own ds) (hl : i < δ.length) (hz : ds.length < 100000) (he : PE X e (tD X.K f δ d)) (h1 : δ.set i (.own (ds ++ [d])) = δ1)
    (hbase : attributeBase o "append" X.env (eval o X.env) = eval o X.env := by rfl)
    (hfew : ((backTo cpos (starEach (e :: []) X.env)).all (fun x => !x.1) && (backToKw cpos (keywordEach [] X.env)).all (fun x => x.1.isSome)
      && decide ((e :: []).length + ([] : List Keyword).length + (if ([] : List Keyword).isEmpty then 0 else 1) < 30)) = true := by rfl)
    (hline : (apos.endLine == cpos.line) = true := by rfl) (hst : starEach (e :: []) X.env = (false, eval e X.env) :: starEach [] X.env := by rfl) (hplain : (backTo cpos (starEach [] X.env)).any (·.1) = false := by rfl)
    (hs : swapsWith (.Call (.Attribute o "append" apos) [e] [] cpos) none pos.line X.env = pure false := by rfl) :
    PS X (.Expr (.Call (.Attribute o "append" apos) [e] [] cpos) pos) (tX X.K f δ (fun δ' => δ' = δ1) R) :=
  s_weak (s_appP ho hd hl hz he hbase hfew hline hst hplain hs) fun δ' ⟨d', e, k⟩ => by rw [k, e, h1]
/-- d[k] = e, d an own dict -/
theorem s_dput {o i e : Expr} {j : Nat} {pos' pos : Pos} {kvs : List (Key × D)} {k : Key} {d : D} {δ1 : List Sl} {R : V → Hp → Prop} (hu : X.A.units + 1 < cLine) (ho : PE X o (tVar j)) (hd : dAt δ j = .ownd kvs) (hl : j < δ.length) (hz : kvs.length < 100000)
    (hi : PE X i (tD X.K f δ (kD k))) (he : PE X e (tD X.K f δ d)) (h1 : δ.set j (.ownd (putD kvs k d)) = δ1) (hs : swapsWith e (some (.Subscript o i pos')) pos.line X.env = pure false := by rfl) :
    PS X (.Assign [.Subscript o i pos'] e pos) (tX X.K f δ (fun δ' => δ' = δ1) R) :=
  ps_imp (ps_dput hu ho hi he hs) fun Dn σ H ⟨G, rp, hn, hr⟩ => ⟨G, rp, fun v d' G1 H1 t1 e1 z1 => by
    subst e1
    have rp1 := rp.step t1
    have s := rp1.slot j
    rw [hd] at s
    obtain ⟨l, xs, q1, q2, q3, q4, q5, q6⟩ := s
    refine ⟨.ref l, sAt_some q1, G1, rp1, fun u d2 G2 H2 t2 e2 z2 => ?_⟩
    subst e2
    have rp2 := rp1.step t2
    have s' := rp2.slot j
    rw [hd] at s'
    obtain ⟨l', xs', f1, f2, f3, f4, f5, f6⟩ := s'
    rw [q1] at f1; cases f1
    refine ⟨l, upd H2 l (.dK (putK xs' k v)), rfl, ?_, ?_⟩
    · rw [dat_kD z2]; exact DPut.k f2 (by rw [← f3.len]; exact Nat.lt_trans hz (by decide))
    · exact hn _ _ G2 _ h1 (t1.gg.trans t2.gg) (rp2.chOwn hl (by rw [hd]; rfl) q1 f4 f5 f6 rfl ⟨l, putK xs' k v, rfl, upd_same, f3.put k (z1.mono t2.gg), f4, f5, f6⟩)⟩
/-- an own list, an own dict given away to the region: as data from now on -/
theorem Rep.frz {K : PySem.W.Frag} {σ : L2.St} {G H : Hp} {i : Nat} (rp : Rep K f σ δ G H) (hl : i < δ.length) (ho : isOwn (dAt δ i) = true) :
    ∃ G', Sub G G' ∧ Rep K f σ (δ.set i (match dAt δ i with | .own ds => .dat (.lst ds) | .ownd kvs => .dat (.dic kvs) | s => s)) G' H := by
  have main : ∀ (l : Addr) (o : HO) (s : Sl), sAt σ i = some (.ref l) → H l = some o → G l = none → f.H0 l = none → ¬ f.M l → isOwn s = false → SlOk K f (upd G l o) H (some (.ref l)) s → ∃ G', Sub G G' ∧ Rep K f σ (δ.set i s) G' H := by
    intro l o s e1 e2 e4 e5 e6 es ok
    have sb : Sub G (upd G l o) := Sub.new e4
    have gh : Sub (upd G l o) H := fun a u e => by
      by_cases h : a = l
      · subst h; rw [upd_same] at e; cases e; exact e2
      · rw [upd_ne h] at e; exact rp.gh a u e
    refine ⟨upd G l o, sb, {
      gh := gh
      inv := f.keep _ _ _ _ sb (fun _ _ => rfl) rp.inv
      mM := fun a m => ⟨by have ne : a ≠ l := fun e => e6 (e ▸ m); rw [upd_ne ne]; exact (rp.mM a m).1, (rp.mM a m).2⟩
      mM0 := rp.mM0
      st := {
        gg := rp.st.gg.trans sb
        gh := gh
        rh := rp.st.rh
        rm := rp.st.rm
        fr := fun a h h2 => by
          by_cases e : a = l
          · subst e; exact absurd e5 h
          · rw [upd_ne e] at h2; exact rp.st.fr a h h2
        inv := fun i => f.keep _ _ _ _ sb (fun _ _ => rfl) (rp.st.inv i) }
      len := by rw [List.length_set, rp.len]
      slot := fun j => by
        rw [dAt_set hl]
        by_cases e : i = j
        · rw [if_pos e, ← e, e1]; exact ok
        · rw [if_neg e]
          have q := rp.slot j
          have ne : ∀ m, isOwn (dAt δ j) = true → sAt σ j = some (.ref m) → m ≠ l := fun m h1 h2 z => e (rp.sep i j m ho h1 (z ▸ e1) h2)
          cases eq : dAt δ j with
          | no => exact True.intro
          | dat d => rw [eq] at q; obtain ⟨v, q1, q2⟩ := q; exact ⟨v, q1, q2.mono sb⟩
          | pin a => rw [eq] at q; exact q
          | own ds =>
            rw [eq] at q
            obtain ⟨m, xs, q0, q1, q2, q3, q4⟩ := q
            exact ⟨m, xs, q0, q1, q2.mono sb, by rw [upd_ne (ne m (by rw [eq]; rfl) q0)]; exact q3, q4⟩
          | ownd ds =>
            rw [eq] at q
            obtain ⟨m, xs, q0, q1, q2, q3, q4⟩ := q
            exact ⟨m, xs, q0, q1, q2.mono sb, by rw [upd_ne (ne m (by rw [eq]; rfl) q0)]; exact q3, q4⟩
      sep := fun j k m h1 h2 h3 h4 => by
        rw [dAt_set hl] at h1 h2
        by_cases e : i = j
        · rw [if_pos e, es] at h1; cases h1
        · by_cases e' : i = k
          · rw [if_pos e', es] at h2; cases h2
          · rw [if_neg e] at h1; rw [if_neg e'] at h2
            exact rp.sep j k m h1 h2 h3 h4 }⟩
  have s := rp.slot i
  cases eq : dAt δ i with
  | no => rw [eq] at ho; cases ho
  | dat d => rw [eq] at ho; cases ho
  | pin a => rw [eq] at ho; cases ho
  | own ds =>
    rw [eq] at s
    obtain ⟨l, xs, e1, e2, e3, e4, e5, e6⟩ := s
    exact main l (.lst xs) (.dat (.lst ds)) e1 e2 e4 e5 e6 rfl ⟨.ref l, rfl, dat_lst upd_same (e3.mono (Sub.new e4))⟩
  | ownd ds =>
    rw [eq] at s
    obtain ⟨l, xs, e1, e2, e3, e4, e5, e6⟩ := s
    exact main l (.dK xs) (.dat (.dic ds)) e1 e2 e4 e5 e6 rfl ⟨.ref l, rfl, dat_dic upd_same (e3.mono (Sub.new e4))⟩
theorem ss_frz {st : List Stmt} {i : Nat} {ds : List D} {δ1 : List Sl} {N : List Sl → Prop} {R : V → Hp → Prop} (hd : dAt δ i = .own ds) (hl : i < δ.length) (h1 : δ.set i (.dat (.lst ds)) = δ1) (h : PSs X st (tX X.K f δ1 N R)) : PSs X st (tX X.K f δ N R) :=
  pss_imp h fun Dn σ H ⟨G, rp, hn, hr⟩ => by
    obtain ⟨G', sb, rp'⟩ := rp.frz hl (by rw [hd]; rfl)
    rw [hd] at rp'
    exact ⟨G', h1 ▸ rp', fun δ' σ' G2 H2 n s rp2 => hn δ' σ' G2 H2 n (sb.trans s) rp2, hr⟩
theorem ss_frzd {st : List Stmt} {i : Nat} {ds : List (Key × D)} {δ1 : List Sl} {N : List Sl → Prop} {R : V → Hp → Prop} (hd : dAt δ i = .ownd ds) (hl : i < δ.length) (h1 : δ.set i (.dat (.dic ds)) = δ1) (h : PSs X st (tX X.K f δ1 N R)) : PSs X st (tX X.K f δ N R) :=
  pss_imp h fun Dn σ H ⟨G, rp, hn, hr⟩ => by
    obtain ⟨G', sb, rp'⟩ := rp.frz hl (by rw [hd]; rfl)
    rw [hd] at rp'
    exact ⟨G', h1 ▸ rp', fun δ' σ' G2 H2 n s rp2 => hn δ' σ' G2 H2 n (sb.trans s) rp2, hr⟩
/-- slots forgotten -/
theorem ss_drop {st : List Stmt} {δ1 : List Sl} {N : List Sl → Prop} {R : V → Hp → Prop} (hl : δ1.length = δ.length) (hw : ∀ i, dAt δ1 i = .no ∨ dAt δ1 i = dAt δ i) (h : PSs X st (tX X.K f δ1 N R)) : PSs X st (tX X.K f δ N R) :=
  pss_imp h fun Dn σ H ⟨G, rp, hn, hr⟩ => ⟨G, rp.weak (by rw [rp.len, hl]) fun i => (hw i).imp id fun e => ⟨rfl, e⟩, hn, hr⟩
/-! ### loops -/
theorem s_forP {j : Nat} {tg iter : Expr} {body : List Stmt} {pos : Pos} {P : List D → Prop} {N : List Sl → Prop} {R : V → Hp → Prop} (L : List D → Nat → List Sl → Prop) (hp : PassesOwn (model X.prog X.w) X.A X.env X.xe) (hc : X.calm = true)
    (hi : PI X tg iter (tI X.K f δ P)) (hg : PG X tg (gName j)) (h0 : ∀ ds, P ds → L ds 0 δ) (hL : ∀ ds i δ', L ds i δ' → j < δ'.length)
    (hb : ∀ ds i d δ', P ds → ds[i]? = some d → L ds i δ' → PSs X body (tX X.K f (δ'.set j (.dat d)) (L ds (i + 1)) R)) (hd : ∀ ds δ', P ds → L ds ds.length δ' → N δ') (hs : ∀ x, foldedSetIterable iter X.env x = pure x := by intro _; rfl) :
    PS X (.For tg iter body [] pos) (tX X.K f δ N R) := by
  let tb : TS := fun Dn σ H => ∃ a : Tri × List Sl, (AtT P a.1 ∧ L a.1.1 a.1.2.1 a.2) ∧ tX X.K f (a.2.set j (.dat a.1.2.2)) (L a.1.1 (a.1.2.1 + 1)) R Dn σ H
  have hbt : PSs X body tb := pss_ex fun a ⟨⟨h1, h2⟩, h3⟩ => hb a.1.1 a.1.2.1 a.1.2.2 a.2 h1 h2 h3
  refine ps_imp (ps_for (tb := tb) hp hc hi hg hbt hs) ?_
  rintro Dn σ H ⟨G, rp, hn, hr⟩
  refine ⟨G, rp, fun J ds G1 H1 t1 p1 it => ?_⟩
  refine ⟨fun i m σ' H' => i + m = ds.length ∧ ∃ δ' G', L ds i δ' ∧ Sub G1 G' ∧ Rep X.K f σ' δ' G' H', ⟨ds.length, by omega, δ, G1, h0 ds p1, Sub.refl G1, rp.step t1⟩, ?_⟩
  rintro i m σ' H' ⟨him, δ', G', hl, sb, rp'⟩
  cases m with
  | zero =>
    have e : i = ds.length := by omega
    subst e
    exact .inl ⟨(it G' H' ⟨sb, rp'.gh⟩).2, hn δ' σ' G' H' (hd ds δ' p1 hl) (t1.gg.trans sb) rp'⟩
  | succ m =>
    have l : i < ds.length := by omega
    have hget : ds[i]? = some ds[i] := List.getElem?_eq_getElem l
    obtain ⟨go, yl⟩ := (it G' H' ⟨sb, rp'.gh⟩).1 i _ hget
    refine .inr ⟨go, fun σ2 H2 => ∃ m', m' < m + 1 ∧ i + 1 + m' = ds.length ∧ ∃ δ' G', L ds (i + 1) δ' ∧ Sub G1 G' ∧ Rep X.K f σ2 δ' G' H2, fun σ2 H2 h2 => h2, fun x H3 hy => ?_⟩
    obtain ⟨rfl, zd⟩ := yl x H3 hy
    refine ⟨((ds, i, ds[i]), δ'), ⟨⟨p1, hget⟩, hl⟩, G', rp'.setDat (hL ds i δ' hl) zd, fun δ2 σ2 G2 H2 n2 s2 rp2 => ?_, hr⟩
    exact ⟨m, by omega, by omega, δ2, G2, n2, sb.trans s2, rp2⟩
theorem s_for {j : Nat} {tg iter : Expr} {body : List Stmt} {pos : Pos} {ds : List D} {N : List Sl → Prop} {R : V → Hp → Prop} (L : Nat → List Sl → Prop) (hp : PassesOwn (model X.prog X.w) X.A X.env X.xe) (hc : X.calm = true)
    (hi : PI X tg iter (tI X.K f δ fun l => l = ds)) (hg : PG X tg (gName j)) (h0 : L 0 δ) (hL : ∀ i δ', L i δ' → j < δ'.length)
    (hb : ∀ i d δ', ds[i]? = some d → L i δ' → PSs X body (tX X.K f (δ'.set j (.dat d)) (L (i + 1)) R)) (hd : ∀ δ', L ds.length δ' → N δ') (hs : ∀ x, foldedSetIterable iter X.env x = pure x := by intro _; rfl) :
    PS X (.For tg iter body [] pos) (tX X.K f δ N R) :=
  s_forP (P := fun l => l = ds) (fun _ => L) hp hc hi hg (fun _ _ => h0) (fun _ => hL) (fun l i d δ' e h1 h2 => hb i d δ' (e ▸ h1) h2) (fun l δ' e h => hd δ' (e ▸ h)) hs
theorem s_while {c : Expr} {body : List Stmt} {pos : Pos} {N : List Sl → Prop} {R : V → Hp → Prop} (L : Nat → List Sl → Prop) (k : List Sl → Bool) (hp : PassesOwn (model X.prog X.w) X.A X.env X.xe)
    (h0 : ∃ m, L m δ) (hc : ∀ m δ', L m δ' → PT X c (tBo X.K f δ' (k δ'))) (hb : ∀ m δ', L m δ' → k δ' = true → PSs X body (tX X.K f δ' (fun δ2 => ∃ m', m' < m ∧ L m' δ2) R)) (hd : ∀ m δ', L m δ' → k δ' = false → N δ') :
    PS X (.While c body [] pos) (tX X.K f δ N R) := by
  let tc : TT := fun σ H Q => ∃ a : Nat × List Sl, L a.1 a.2 ∧ tBo X.K f a.2 (k a.2) σ H Q
  let tb : TS := fun Dn σ H => ∃ a : Nat × List Sl, (L a.1 a.2 ∧ k a.2 = true) ∧ tX X.K f a.2 (fun δ2 => ∃ m', m' < a.1 ∧ L m' δ2) R Dn σ H
  have hct : PT X c tc := ⟨fun pins s σ H Q I ⟨a, ha, q⟩ => (hc a.1 a.2 ha).run pins s σ H Q I q⟩
  have hbt : PSs X body tb := pss_ex fun a ⟨h1, h2⟩ => hb a.1 a.2 h1 h2
  refine ps_imp (ps_while (tc := tc) (tb := tb) hp hct hbt) ?_
  rintro Dn σ H ⟨G, rp, hn, hr⟩
  obtain ⟨m0, hm0⟩ := h0
  refine ⟨fun m σ' H' => ∃ δ' G', L m δ' ∧ Sub G G' ∧ Rep X.K f σ' δ' G' H', ⟨m0, δ, G, hm0, Sub.refl G, rp⟩, ?_⟩
  rintro m σ' H' ⟨δ', G', hl, sb, rp'⟩
  refine ⟨(m, δ'), hl, G', rp', fun G2 H2 t2 => ?_⟩
  cases hk : k δ' with
  | true =>
    refine iteT ⟨fun σ2 H2 => ∃ m', m' < m ∧ ∃ δ' G', L m' δ' ∧ Sub G G' ∧ Rep X.K f σ2 δ' G' H2, fun σ2 H2 h2 => h2, (m, δ'), ⟨hl, hk⟩, G2, rp'.step t2, fun δ3 σ3 G3 H3 ⟨m', hm', hl'⟩ s3 rp3 => ?_, hr⟩
    exact ⟨m', hm', δ3, G3, hl', (sb.trans t2.gg).trans s3, rp3⟩
  | false => exact iteF (hn δ' σ' G2 H2 (hd m δ' hl hk) (sb.trans t2.gg) (rp'.step t2))
/-! ### several targets -/
def setAll (δ : List Sl) : List Nat → List D → List Sl
  | i :: is, d :: ds => setAll (δ.set i (.dat d)) is ds
  | _, _ => δ
/-- the targets are names, in these slots -/
def gSlots : List Nat → TGs
  | [] => gNil
  | i :: is => gCons (gName i) (gSlots is)
theorem setAll_len : ∀ (is : List Nat) (ds : List D) (δ : List Sl), (setAll δ is ds).length = δ.length
  | [], _, _ => rfl
  | _ :: _, [], _ => rfl
  | i :: is, d :: ds, δ => by unfold setAll; rw [setAll_len, List.length_set]
theorem slots_read {K : PySem.W.Frag} {G H : Hp} {Q : L2.St → Hp → Prop} : ∀ (is : List Nat) (ds : List D) (xs : List V) (σ : L2.St) (δ : List Sl), (∀ i ∈ is, i < δ.length) → is.length = ds.length → Rep K f σ δ G H → Dats K f.C G ds xs →
    (∀ σ', Rep K f σ' (setAll δ is ds) G H → Q σ' H) → gSlots is xs σ H Q
  | [], [], xs, σ, δ, _, _, rp, z, q => ⟨z.inv0, q σ rp⟩
  | [], _ :: _, _, _, _, _, h, _, _, _ => by simp at h
  | _ :: _, [], _, _, _, _, h, _, _, _ => by simp at h
  | i :: is, d :: ds, xs, σ, δ, hi, hl, rp, z, q => by
    obtain ⟨x, r, rfl, z1, z2⟩ := z.inv
    refine ⟨x, r, rfl, ?_⟩
    exact slots_read is ds r _ _ (fun k hk => by rw [List.length_set]; exact hi k (List.mem_cons_of_mem _ hk)) (by simpa using hl) (rp.setDat (hi i List.mem_cons_self) z1) z2 q
/-- a, b, .. = e -/
theorem s_unpack {es : List Expr} {k : Nat} {tpos pos : Pos} {e : Expr} {is : List Nat} {ds : List D} {δ1 : List Sl} {R : V → Hp → Prop} (hc : X.calm = true) (he : PE X e (tD X.K f δ (.tup ds))) (hg : PGs X es (gSlots is)) (hi : ∀ i ∈ is, i < δ.length) (hl : is.length = ds.length) (h1 : setAll δ is ds = δ1)
    (hn : (assignEach es X.env).length = is.length := by rfl) (hst : (assignEach es X.env).findIdx? (·.1) = none := by rfl)
    (hs : swapsWithSole [.Tuple es k tpos] e pos.line X.env = pure false := by rfl) (hw : swappedStores [.Tuple es k tpos] e X.env = pure none := by rfl) (h2 : (assignEach [.Tuple es k tpos] X.env).map (·.2) = [assign (.Tuple es k tpos) X.env] := by rfl) :
    PS X (.Assign [.Tuple es k tpos] e pos) (tX X.K f δ (fun δ' => δ' = δ1) R) :=
  ps_imp (ps_asg he (pg_tup (n := is.length) hc hg hn hst) hs hw h2) fun Dn σ H ⟨G, rp, hn, hr⟩ => ⟨G, rp, fun v d G' H' t e z => by
    subst e
    obtain ⟨a, xs, rfl, q1, q2⟩ := z.tup_inv
    exact ⟨a, xs, rfl, t.gh.sqT q1, by rw [← q2.len, hl], slots_read is ds xs σ δ hi hl (rp.step t) q2 fun σ' rp' => hn _ σ' G' H' h1 t.gg rp'⟩⟩
/-- .. a list of lists (or of anything) that a call gives -/
theorem s_unpackL {es : List Expr} {k : Nat} {tpos pos : Pos} {e : Expr} {is : List Nat} {ds : List D} {δ1 : List Sl} {R : V → Hp → Prop} (hc : X.calm = true) (he : PE X e (tN X.K f δ ds)) (hg : PGs X es (gSlots is)) (hi : ∀ i ∈ is, i < δ.length) (hl : is.length = ds.length) (h1 : setAll δ is ds = δ1)
    (hn : (assignEach es X.env).length = is.length := by rfl) (hst : (assignEach es X.env).findIdx? (·.1) = none := by rfl)
    (hs : swapsWithSole [.Tuple es k tpos] e pos.line X.env = pure false := by rfl) (hw : swappedStores [.Tuple es k tpos] e X.env = pure none := by rfl) (h2 : (assignEach [.Tuple es k tpos] X.env).map (·.2) = [assign (.Tuple es k tpos) X.env] := by rfl) :
    PS X (.Assign [.Tuple es k tpos] e pos) (tX X.K f δ (fun δ' => δ' = δ1) R) :=
  ps_imp (ps_asg he (pg_lst (n := is.length) hc hg hn hst) hs hw h2) fun Dn σ H ⟨G, rp, hn, hr⟩ => ⟨G, rp, fun p xs ds' G' H' t hp hg' hM ho e z => by
    subst e
    exact ⟨p, xs, rfl, SqL.of ho, by rw [← z.len, hl], slots_read is ds' xs σ δ hi hl (rp.step t) z fun σ' rp' => hn _ σ' G' H' h1 t.gg rp'⟩⟩
end
end Un
set_option maxHeartbeats 4000000
/-! Un: defs and their promises over data, calls. -/
namespace Un
open PySem L2
/-- a step that keeps all -/
structure PStep (G H G' H' : Hp) : Prop where
  gg : Sub G G'
  gh : Sub G' H'
  hh : Sub H H'
  fr : ∀ a, H a ≠ none → G' a ≠ none → G a ≠ none
theorem PStep.step {f : Fm} {G H G' H' : Hp} (t : PStep G H G' H') (hM : ∀ a, f.M a → H a ≠ none) : Step f G H G' H' where
  gg := t.gg
  gh := t.gh
  rh := fun a o _ h => t.hh a o h
  rm := fun a h => by
    cases q : H a with
    | none => exact absurd q h
    | some o => exact ne_none (t.hh a o q)
  fr := t.fr
  inv := f.keep _ _ _ _ t.gg fun a m => by
    cases q : H a with
    | none => exact absurd q (hM a m)
    | some o => exact t.hh a o q
/-- the frame of a def that changes nothing -/
def pf (C : Addr) (G H : Hp) : Fm := { C := C, M := fun _ => False, I := fun _ _ => True, keep := fun _ _ _ _ _ _ _ => True.intro, G0 := G, H0 := H }
theorem Step.p {C : Addr} {G0 H0 G H G' H' : Hp} (t : Step (pf C G0 H0) G H G' H') : PStep G H G' H' := ⟨t.gg, t.gh, fun a o h => t.rh a o (fun z => z) h, t.fr⟩
/-- the promise of a def: from data to data; to a new list -/
def spD (K : PySem.W.Frag) (C : Addr) (n : Nat) (S : List D → D → Prop) : Sp := fun vs H Q _ => ∃ G ds d, ds.length = n ∧ Sub G H ∧ Dats K C G ds vs ∧ S ds d ∧ ∀ v G' H', PStep G H G' H' → Dat K C G' d v → Q v H'
def spN (K : PySem.W.Frag) (C : Addr) (n : Nat) (S : List D → List D → Prop) : Sp := fun vs H Q _ => ∃ G ds es, ds.length = n ∧ Sub G H ∧ Dats K C G ds vs ∧ S ds es ∧
  ∀ p xs G' H', PStep G H G' H' → H p = none → G' p = none → H' p = some (.lst xs) → Dats K C G' es xs → Q (.ref p) H'
/-- the slots at the entry -/
def ent (N : List Str) (ds : List D) : List Sl := ds.map Sl.dat ++ List.replicate (N.length - ds.length) .no
theorem sAt_start {N : List Str} {vs : List V} {i : Nat} : sAt (L2.start N vs) i = vs[i]? := by
  unfold sAt L2.start
  rw [List.getD_eq_getElem?_getD, List.getElem?_append]
  split
  · rename_i h
    rw [List.getElem?_map]
    have l : i < vs.length := by simpa using h
    rw [List.getElem?_eq_getElem l]; rfl
  · rename_i h
    have l : vs.length ≤ i := by simpa using h
    rw [List.getElem?_eq_none l, List.getElem?_replicate]
    split <;> rfl
theorem dAt_ent {N : List Str} {ds : List D} {i : Nat} : dAt (ent N ds) i = match ds[i]? with | some d => .dat d | none => .no := by
  unfold dAt ent
  rw [List.getD_eq_getElem?_getD, List.getElem?_append]
  split
  · rename_i h
    rw [List.getElem?_map]
    have l : i < ds.length := by simpa using h
    rw [List.getElem?_eq_getElem l]; rfl
  · rename_i h
    have l : ds.length ≤ i := by simpa using h
    rw [List.getElem?_eq_none l, List.getElem?_replicate]
    split <;> rfl
theorem rep_start {K : PySem.W.Frag} {f : Fm} {N : List Str} {ds : List D} {vs : List V} (gh : Sub f.G0 f.H0) (inv : f.I f.G0 f.H0) (mM : ∀ a, f.M a → f.G0 a = none ∧ f.H0 a ≠ none) (hz : Dats K f.C f.G0 ds vs) : Rep K f (L2.start N vs) (ent N ds) f.G0 f.H0 where
  gh := gh
  inv := inv
  mM := mM
  mM0 := fun a m => (mM a m).2
  st := Step.refl gh
  len := by unfold L2.start ent; simp [hz.len]
  slot := fun i => by
    rw [dAt_ent, sAt_start]
    cases e : ds[i]? with
    | none => exact True.intro
    | some d =>
      obtain ⟨x, hx, z⟩ := hz.get e
      exact ⟨x, hx, z⟩
  sep := fun i j l h1 _ _ _ => by
    rw [dAt_ent] at h1
    cases e : ds[i]? with
    | none => rw [e] at h1; cases h1
    | some d => rw [e] at h1; cases h1
/-- a global def that keeps a promise -/
structure Glo (P : Program) (w : World) (K : PySem.W.Frag) (mg : Str → Option Value) (base : Heap) (x : Str) (k : Nat) (ps : List Str) (sp : Sp) : Prop where
  ex : ∃ (g : Addr) (fd : FuncData), FnOk P w K mg base CX0 k g fd ps sp ∧ mg x = some (.ref g) ∧ PySem.W.keepIn K (.ref g) = true ∧ Binds K fd ps []
/-- a method of the class of the parties -/
structure Mtd (P : Program) (w : World) (K : PySem.W.Frag) (mg : Str → Option Value) (base : Heap) (C : Addr) (m : Str) (k : Nat) (ps : List Str) (sp : Sp) : Prop where
  ex : ∃ (g : Addr) (fd : FuncData), FnOk P w K mg base CX0 k g fd ps sp ∧ Meth K C m g ∧ Binds K fd ps []
/-- .. a property -/
structure Prp (P : Program) (w : World) (K : PySem.W.Frag) (mg : Str → Option Value) (base : Heap) (C : Addr) (m : Str) (k : Nat) (sp : Sp) : Prop where
  ex : ∃ (g p : Addr) (fd : FuncData), FnOk P w K mg base CX0 k g fd ["self"] sp ∧ PropOf K C m p g ∧ Binds K fd ["self"] []
/-- a def's body in its context -/
abbrev bX (P : Program) (w : World) (K : PySem.W.Frag) (mg : Str → Option Value) (base : Heap) (N : List Str) (qual : Str) (st : Stmt) (g : Addr) (cdv : Value) (A : Around) (outer : List Env) (s : Shared) (H : Hp) (E : XK) : Cx :=
  (cxOf CX0 P w K mg base N qual (defScope st) g cdv A outer s H E).nox
section
variable {P : Program} {w : World} {K : PySem.W.Frag} {mg : Str → Option Value} {base : Heap} {C : Addr}
theorem fn_D {x qual : Str} {st : Stmt} {g : Addr} {fd : FuncData} {N ps : List Str} {k n : Nat} {S : List D → D → Prop} (F : Fun K x qual st g fd) (sc : FnScope N ps (defScope st)) (hn : ps.length = n)
    (hb : ∀ (cdv : Value) (A : Around) (outer : List Env) (s : Shared) (H : Hp) (E : XK) (G : Hp) (ds : List D) (d : D), Room k (bX P w K mg base N qual st g cdv A outer s H E).A → S ds d →
      PSs (bX P w K mg base N qual st g cdv A outer s H E) (defBody st) (tX K (pf C G H) (ent N ds) (fun _ => False) (retD K (pf C G H) d))) :
    FnOk P w K mg base CX0 (k + 1) g fd ps (spD K C n S) := by
  refine F.ok sc (fun vs H Q E h => ?_) (fun cdv A outer s H vs Q E hr h => ?_)
  · obtain ⟨G, ds, d, hl, sb, z, _⟩ := h
    rw [hn, ← hl, z.len]
  · obtain ⟨G, ds, d, hl, sb, z, hS, q⟩ := h
    refine ⟨_, hb cdv A outer s H E G ds d hr hS, G, rep_start (f := pf C G H) sb True.intro (fun _ m => m.elim) z, fun _ _ _ _ f => f.elim, fun v H' ⟨d', G', t, e, z'⟩ => ?_⟩
    subst e
    exact q v G' H' t.p z'
theorem fn_N {x qual : Str} {st : Stmt} {g : Addr} {fd : FuncData} {N ps : List Str} {k n : Nat} {S : List D → List D → Prop} (F : Fun K x qual st g fd) (sc : FnScope N ps (defScope st)) (hn : ps.length = n)
    (hb : ∀ (cdv : Value) (A : Around) (outer : List Env) (s : Shared) (H : Hp) (E : XK) (G : Hp) (ds : List D) (d : List D), Room k (bX P w K mg base N qual st g cdv A outer s H E).A → S ds d →
      PSs (bX P w K mg base N qual st g cdv A outer s H E) (defBody st) (tX K (pf C G H) (ent N ds) (fun _ => False) (retN K (pf C G H) d))) :
    FnOk P w K mg base CX0 (k + 1) g fd ps (spN K C n S) := by
  refine F.ok sc (fun vs H Q E h => ?_) (fun cdv A outer s H vs Q E hr h => ?_)
  · obtain ⟨G, ds, d, hl, sb, z, _⟩ := h
    rw [hn, ← hl, z.len]
  · obtain ⟨G, ds, d, hl, sb, z, hS, q⟩ := h
    refine ⟨_, hb cdv A outer s H E G ds d hr hS, G, rep_start (f := pf C G H) sb True.intro (fun _ m => m.elim) z, fun _ _ _ _ f => f.elim, fun v H' ⟨p, xs, es, G', e1, t, h1, h2, h3, h4, h5, h6⟩ => ?_⟩
    subst e1; subst h5
    exact q p xs G' H' t.p h1 h2 h4 h6
end
/-! ### calls -/
section
variable {X : Cx} {f : Fm} {δ : List Sl} {k n : Nat} {ps : List Str} {x m : Str} {p pos apos : Pos} {e o : Expr} {es : List Expr}
theorem x_callP {S : List D → D → Prop} {Ps : List D → Prop} {R : D → Prop} (c : Glo X.prog X.w X.K X.mg X.base x k ps (spD X.K f.C n S)) (hr : Room k X.A) (ha : PA X (e :: es) (tAP X.K f δ Ps)) (hS : ∀ ds, Ps ds → ds.length = n ∧ ∃ d, S ds d ∧ R d)
    (hg : Gl X x := by rfl) (hdb : (x == ("__debug__" : Str)) = false := by decide) (he : starEach (e :: es) X.env = (false, eval e X.env) :: starEach es X.env := by rfl) (hpl : (backTo pos (starEach es X.env)).any (·.1) = false := by rfl) :
    PE X (.Call (.Name x p) (e :: es) [] pos) (tP X.K f δ R) := by
  obtain ⟨g, fd, F, hm, hk, hb⟩ := c.ex
  refine pe_imp (pe_call F hr hg hm hk hb .nil pass0 ha hdb he hpl) fun σ H Q ⟨G, rp, q⟩ => ⟨G, rp, fun vs ds G1 H1 t1 p1 z1 => ?_⟩
  obtain ⟨hl, d, hs, hR⟩ := hS ds p1
  rw [List.append_nil]
  exact ⟨G1, ds, d, hl, t1.gh, z1, hs, fun v G' H' t z => q v d G' H' (t1.trans (t.step (rp.step t1).hM)) hR z⟩
theorem x_call {S : List D → D → Prop} {ds : List D} {d : D} (c : Glo X.prog X.w X.K X.mg X.base x k ps (spD X.K f.C n S)) (hr : Room k X.A) (ha : PA X (e :: es) (tL X.K f δ ds)) (hS : ds.length = n ∧ S ds d)
    (hg : Gl X x := by rfl) (hdb : (x == ("__debug__" : Str)) = false := by decide) (he : starEach (e :: es) X.env = (false, eval e X.env) :: starEach es X.env := by rfl) (hpl : (backTo pos (starEach es X.env)).any (·.1) = false := by rfl) :
    PE X (.Call (.Name x p) (e :: es) [] pos) (tD X.K f δ d) := x_callP c hr ha (fun l h => by subst h; exact ⟨hS.1, d, hS.2, rfl⟩) hg hdb he hpl
theorem x_callN {S : List D → List D → Prop} {ds : List D} {d : List D} (c : Glo X.prog X.w X.K X.mg X.base x k ps (spN X.K f.C n S)) (hr : Room k X.A) (ha : PA X (e :: es) (tL X.K f δ ds)) (hS : ds.length = n ∧ S ds d)
    (hg : Gl X x := by rfl) (hdb : (x == ("__debug__" : Str)) = false := by decide) (he : starEach (e :: es) X.env = (false, eval e X.env) :: starEach es X.env := by rfl) (hpl : (backTo pos (starEach es X.env)).any (·.1) = false := by rfl) :
    PE X (.Call (.Name x p) (e :: es) [] pos) (tN X.K f δ d) := by
  obtain ⟨g, fd, F, hm, hk, hb⟩ := c.ex
  refine pe_imp (pe_call F hr hg hm hk hb .nil pass0 ha hdb he hpl) fun σ H Q ⟨G, rp, q⟩ => ⟨G, rp, fun vs ds' G1 H1 t1 p1 z1 => ?_⟩
  subst p1
  rw [List.append_nil]
  refine ⟨G1, ds', d, hS.1, t1.gh, z1, hS.2, fun w xs G' H' t hp hg' ho z => ?_⟩
  have b := rp.back t1 hp
  exact q w xs d G' H' (t1.trans (t.step (rp.step t1).hM)) b.1 hg' b.2 ho rfl z
/-- o.m(e, ..), o a party -/
theorem x_meth {pl : Sem Bool} {S : List D → D → Prop} {fs : List (Str × D)} {ds : List D} {d : D} (cl : Cls X.K f.C) (c : Mtd X.prog X.w X.K X.mg X.base f.C m k ps (spD X.K f.C n S)) (hr : Room k X.A) (ho : PE X o (tD X.K f δ (.obj fs))) (hl : fs.lookup m = none)
    (ha : PA X (e :: es) (tL X.K f δ ds)) (hS : ds.length + 1 = n ∧ S (.obj fs :: ds) d)
    (hst : starEach (e :: es) X.env = (false, eval e X.env) :: starEach es X.env := by rfl) (hpl : (backTo pos (starEach es X.env)).any (·.1) = false := by rfl)
    (ht : eval (.Call (.Attribute o m apos) (e :: es) [] pos) X.env = (do
      let ov ← eval o X.env
      standAt apos.atName
      let (f, first) ← holding [ov] (getMethod ov m pl)
      callWith pos f first (backTo pos (starEach (e :: es) X.env)) (backToKw pos (keywordEach [] X.env))) := by rfl) :
    PE X (.Call (.Attribute o m apos) (e :: es) [] pos) (tD X.K f δ d) := by
  obtain ⟨g, fd, F, hm, hb⟩ := c.ex
  refine pe_imp (pe_meth ho cl hm F hr hb .nil pass0 ha hst hpl ht) fun σ H Q ⟨G, rp, q⟩ => ⟨G, rp, fun v dd G1 H1 t1 p1 z1 => ?_⟩
  subst p1
  obtain ⟨a, dx, ys, rfl, h1, h2⟩ := z1.obj_inv
  refine ⟨a, dx, ys, rfl, t1.gh _ _ h1, h2.none hl, G1, rp.step t1, fun vs ds' G2 H2 t2 e2 z2 => ?_⟩
  subst e2
  rw [List.append_nil]
  exact ⟨G2, _, d, by rw [List.length_cons]; exact hS.1, t2.gh, dats_cons (z1.mono t2.gg) z2, hS.2, fun v G' H' t z => q v d G' H' ((t1.trans t2).trans (t.step ((rp.step t1).step t2).hM)) rfl z⟩
/-- o.m, a property -/
theorem x_prop {S : List D → D → Prop} {fs : List (Str × D)} {d : D} (cl : Cls X.K f.C) (c : Prp X.prog X.w X.K X.mg X.base f.C m k (spD X.K f.C 1 S)) (hr : Room (k + 1) X.A) (ho : PE X o (tD X.K f δ (.obj fs))) (hS : S [.obj fs] d)
    (hab : attributeBase o m X.env (eval o X.env) = eval o X.env := by rfl) : PE X (.Attribute o m pos) (tD X.K f δ d) := by
  obtain ⟨g, pp, fd, F, hm, hb⟩ := c.ex
  refine pe_imp (pe_prop ho cl hm F hr hb .nil pass0 hab) fun σ H Q ⟨G, rp, q⟩ => ⟨G, rp, fun v dd G1 H1 t1 p1 z1 => ?_⟩
  subst p1
  obtain ⟨a, dx, ys, rfl, h1, h2⟩ := id z1.obj_inv
  exact ⟨a, dx, ys, rfl, t1.gh _ _ h1, G1, _, d, rfl, t1.gh, dats_cons z1 dats_nil, hS, fun v G' H' t z => q v d G' H' (t1.trans (t.step (rp.step t1).hM)) rfl z⟩
end
end Un
set_option maxHeartbeats 4000000
/-! Un: loops and comprehensions over data that a list makes; ifs; short words. -/
namespace Un
open PySem L2
theorem lt_ {i n : Nat} (h : Nat.ble (i + 1) n = true) : i < n := Nat.le_of_ble_eq_true h
theorem le_ {i n : Nat} (h : Nat.ble i n = true) : i ≤ n := Nat.le_of_ble_eq_true h
theorem map_get {α : Type} {l : List α} {h : α → D} {i : Nat} {d : D} (e : (l.map h)[i]? = some d) : ∃ a, l[i]? = some a ∧ d = h a := by
  rw [List.getElem?_map] at e
  cases q : l[i]? with
  | none => rw [q] at e; cases e
  | some a => rw [q] at e; exact ⟨a, rfl, (Option.some.inj e).symm⟩
theorem split_at {α : Type} {l : List α} {i : Nat} {a : α} (h : l[i]? = some a) : l = l.take i ++ a :: l.drop (i + 1) ∧ l.take (i + 1) = l.take i ++ [a] := by
  have hi : i < l.length := by
    cases Nat.lt_or_ge i l.length with
    | inl q => exact q
    | inr q => rw [List.getElem?_eq_none q] at h; cases h
  have e : l[i] = a := by rw [List.getElem?_eq_getElem hi] at h; exact Option.some.inj h
  refine ⟨?_, ?_⟩
  · rw [← e, List.getElem_cons_drop, List.take_append_drop]
  · rw [List.take_add_one, h]; rfl
section
variable {X : Cx} {f : Fm} {δ : List Sl}
/-- for a in l, each as h a -/
theorem s_forl {α : Type} {l : List α} {h : α → D} {j : Nat} {tg iter : Expr} {body : List Stmt} {pos : Pos} {N : List Sl → Prop} {R : V → Hp → Prop} (I : List α → List Sl → Prop) (hp : PassesOwn (model X.prog X.w) X.A X.env X.xe) (hc : X.calm = true)
    (hi : PI X tg iter (tI X.K f δ fun e => e = l.map h)) (hg : PG X tg (gName j)) (h0 : I [] δ) (hL : ∀ pre δ', I pre δ' → j < δ'.length)
    (hb : ∀ pre a post δ', l = pre ++ a :: post → I pre δ' → PSs X body (tX X.K f (δ'.set j (.dat (h a))) (I (pre ++ [a])) R)) (hd : ∀ δ', I l δ' → N δ') (hs : ∀ x, foldedSetIterable iter X.env x = pure x := by intro _; rfl) :
    PS X (.For tg iter body [] pos) (tX X.K f δ N R) :=
  s_for (fun i δ' => I (l.take i) δ') hp hc hi hg h0 (fun i δ' h => hL _ δ' h) (fun i d δ' e hI => by
    obtain ⟨a, ha, rfl⟩ := map_get e
    obtain ⟨e1, e2⟩ := split_at ha
    rw [e2]
    exact hb (l.take i) a (l.drop (i + 1)) δ' e1 hI) (fun δ' hI => hd δ' (by rw [List.length_map, List.take_length] at hI; exact hI)) hs
/-- for i in range -/
theorem s_forr {lo : Int} {n : Nat} {j : Nat} {tg iter : Expr} {body : List Stmt} {pos : Pos} {N : List Sl → Prop} {R : V → Hp → Prop} (I : Nat → List Sl → Prop) (hp : PassesOwn (model X.prog X.w) X.A X.env X.xe) (hc : X.calm = true)
    (hi : PI X tg iter (tI X.K f δ fun e => e = rngD lo n)) (hg : PG X tg (gName j)) (h0 : I 0 δ) (hL : ∀ i δ', I i δ' → j < δ'.length)
    (hb : ∀ i δ', i < n → I i δ' → PSs X body (tX X.K f (δ'.set j (.dat (.int (lo + (i : Nat))))) (I (i + 1)) R)) (hd : ∀ δ', I n δ' → N δ') (hs : ∀ x, foldedSetIterable iter X.env x = pure x := by intro _; rfl) :
    PS X (.For tg iter body [] pos) (tX X.K f δ N R) :=
  s_for I hp hc hi hg h0 hL (fun i d δ' e hI => by
    obtain ⟨e1, rfl⟩ := rngD_get e
    exact hb i δ' e1 hI) (fun δ' hI => hd δ' (by rw [rngD_len] at hI; exact hI)) hs
theorem filter_snoc {α : Type} (p : α → Bool) (l : List α) (a : α) : (l ++ [a]).filter p = l.filter p ++ (if p a then [a] else []) := by
  rw [List.filter_append, List.filter_cons]
  split <;> rfl
/-- [elt for a in l if b a], each a as h a, giving g a -/
theorem x_lcm {α : Type} {l : List α} {h : α → D} (b : α → Bool) (g : α → D) {j : Nat} {xn : Str} {px pos : Pos} {elt iter : Expr} {ifs : List Expr} {scope : Scope}
    (hc : X.calm = true) (hN : X.N.Nodup) (hj : j < δ.length) (hz : l.length ≤ 100000) (hi : PI X (.Name xn px) iter (tIs X.K f δ fun e => e = l.map h)) (ok : BlkOk X.N X.env.scope scope [(xn, j)])
    (hg : ∀ (s : Shared) (H : Hp) (C : Addr) (cl : List (Str × Addr)) (fp : List Addr), PG (X.blk s H scope (compEnvC scope cl C X.env) fp) (.Name xn px) (gName j))
    (ht : ∀ a, a ∈ l → ∀ (s : Shared) (H : Hp) (C : Addr) (cl : List (Str × Addr)) (fp : List Addr), PTs (X.blk s H scope (compEnvC scope cl C X.env) fp) ifs (tBo X.K f (δ.set j (.dat (h a))) (b a)))
    (he : ∀ a, a ∈ l → b a = true → ∀ (s : Shared) (H : Hp) (C : Addr) (cl : List (Str × Addr)) (fp : List Addr), PE (X.blk s H scope (compEnvC scope cl C X.env) fp) elt (tD X.K f (δ.set j (.dat (h a))) (g a)))
    (hf : ∀ x, foldedSetIterable iter X.env x = pure x := by intro _; rfl) :
    PE X (.ListComp elt [⟨.Name xn px, iter, ifs, 0⟩] scope pos) (tN X.K f δ ((l.filter b).map g)) := by
  classical
  have mem : ∀ {i : Nat} {a : α}, l[i]? = some a → a ∈ l := fun e => List.mem_of_getElem? e
  refine x_lcP (P := fun e => e = l.map h) (b := fun t => (l[t.2.1]?).any b) (Pe := fun t e => ∃ a, l[t.2.1]? = some a ∧ e = g a) (fun _ i acc => acc = ((l.take i).filter b).map g) hc hN hj hi ok hg ?_ ?_ ?_ ?_ ?_ hf
  · rintro ⟨ds, i, d⟩ ⟨e1, e2⟩ s H C cl fp
    have e1 : ds = l.map h := e1
    subst e1
    obtain ⟨a, ha, rfl⟩ := map_get (i := i) e2
    show PTs _ ifs (tBo X.K f (δ.set j (.dat (h a))) ((l[i]?).any b))
    rw [ha]
    exact ht a (mem ha) s H C cl fp
  · rintro ⟨ds, i, d⟩ ⟨⟨e1, e2⟩, e3⟩ s H C cl fp
    have e1 : ds = l.map h := e1
    subst e1
    obtain ⟨a, ha, rfl⟩ := map_get (i := i) e2
    have e3 : (l[i]?).any b = true := e3
    rw [ha] at e3
    exact x_weak (he a (mem ha) e3 s H C cl fp) fun e q => ⟨a, ha, q⟩
  · rintro ds rfl
    exact ⟨by rw [List.length_map]; exact hz, by simp⟩
  · rintro ds i d acc rfl e2 ha
    obtain ⟨a, h1, rfl⟩ := map_get (i := i) e2
    show ((l[i]?).any b = false → _) ∧ ((l[i]?).any b = true → _)
    rw [h1, (split_at h1).2, filter_snoc]
    refine ⟨fun hb => ?_, fun hb e ⟨a', q1, q2⟩ => ?_⟩
    · rw [if_neg (by rw [show b a = false from hb]; decide), List.append_nil]; exact ha
    · cases (show some a = some a' from q1)
      rw [if_pos (show b a = true from hb), List.map_append, ha, q2]; rfl
  · rintro ds acc rfl ha
    rw [List.length_map, List.take_length] at ha
    exact ha
/-- .. without tests -/
theorem x_lca {α : Type} {l : List α} {h : α → D} (g : α → D) {j : Nat} {xn : Str} {px pos : Pos} {elt iter : Expr} {scope : Scope}
    (hc : X.calm = true) (hN : X.N.Nodup) (hj : j < δ.length) (hz : l.length ≤ 100000) (hi : PI X (.Name xn px) iter (tIs X.K f δ fun e => e = l.map h)) (ok : BlkOk X.N X.env.scope scope [(xn, j)])
    (hg : ∀ (s : Shared) (H : Hp) (C : Addr) (cl : List (Str × Addr)) (fp : List Addr), PG (X.blk s H scope (compEnvC scope cl C X.env) fp) (.Name xn px) (gName j))
    (he : ∀ a, a ∈ l → ∀ (s : Shared) (H : Hp) (C : Addr) (cl : List (Str × Addr)) (fp : List Addr), PE (X.blk s H scope (compEnvC scope cl C X.env) fp) elt (tD X.K f (δ.set j (.dat (h a))) (g a)))
    (hf : ∀ x, foldedSetIterable iter X.env x = pure x := by intro _; rfl) :
    PE X (.ListComp elt [⟨.Name xn px, iter, [], 0⟩] scope pos) (tN X.K f δ (l.map g)) := by
  have e : l.map g = (l.filter fun _ => true).map g := by rw [List.filter_eq_self.mpr (fun _ _ => rfl)]
  rw [e]
  exact x_lcm (fun _ => true) g hc hN hj hz hi ok hg (fun a _ s H C cl fp => pts_imp pts_nil fun σ H Q ⟨G, rp, q⟩ => q G H (Step.refl rp.gh)) (fun a ha _ => he a ha) hf
theorem ts_one {c : Expr} {k : Bool} (h : PT X c (tBo X.K f δ k)) : PTs X [c] (tBo X.K f δ k) := pts_one h
/-- y = [elt for a in l if b a] -/
theorem s_setLcm {α : Type} {l : List α} {h : α → D} (b : α → Bool) (g : α → D) {i j : Nat} {y xn : Str} {py px pos spos : Pos} {elt iter : Expr} {ifs : List Expr} {scope : Scope} {δ1 : List Sl} {R : V → Hp → Prop}
    (hc : X.calm = true) (hN : X.N.Nodup) (hy : X.N[i]? = some y) (hyl : X.env.scope.names.lookup y = some .local) (hl : i < δ.length) (hj : j < δ.length) (hz : l.length ≤ 100000)
    (hsw : swapsWith (.ListComp elt [⟨.Name xn px, iter, ifs, 0⟩] scope pos) (some (.Name y py)) spos.line X.env = pure true)
    (hi : PI X (.Name xn px) iter (tIs X.K f δ fun e => e = l.map h)) (ok : BlkOk X.N X.env.scope scope [(xn, j)])
    (hg : ∀ (s : Shared) (H : Hp) (C : Addr) (cl : List (Str × Addr)) (fp : List Addr), PG (X.blk s H scope (compEnvC scope cl C X.env) fp) (.Name xn px) (gName j))
    (ht : ∀ a, a ∈ l → ∀ (s : Shared) (H : Hp) (C : Addr) (cl : List (Str × Addr)) (fp : List Addr), PTs (X.blk s H scope (compEnvC scope cl C X.env) fp) ifs (tBo X.K f (δ.set j (.dat (h a))) (b a)))
    (he : ∀ a, a ∈ l → b a = true → ∀ (s : Shared) (H : Hp) (C : Addr) (cl : List (Str × Addr)) (fp : List Addr), PE (X.blk s H scope (compEnvC scope cl C X.env) fp) elt (tD X.K f (δ.set j (.dat (h a))) (g a)))
    (h1 : δ.set i (.own ((l.filter b).map g)) = δ1) (hf : ∀ x, foldedSetIterable iter X.env x = pure x := by intro _; rfl) :
    PS X (.Assign [.Name y py] (.ListComp elt [⟨.Name xn px, iter, ifs, 0⟩] scope pos) spos) (tX X.K f δ (fun δ' => δ' = δ1) R) := by
  have mem : ∀ {i : Nat} {a : α}, l[i]? = some a → a ∈ l := fun e => List.mem_of_getElem? e
  refine s_weak (s_setLcP (P := fun e => e = l.map h) (b := fun t => (l[t.2.1]?).any b) (Pe := fun t e => ∃ a, l[t.2.1]? = some a ∧ e = g a) (PA := fun e => e = (l.filter b).map g) (fun _ i acc => acc = ((l.take i).filter b).map g) hc hN hy hyl hl hj hsw hi ok hg ?_ ?_ ?_ ?_ ?_ hf) (fun δ' ⟨d', e, k⟩ => by rw [k, e, h1])
  · rintro ⟨ds, i, d⟩ ⟨e1, e2⟩ s H C cl fp
    have e1 : ds = l.map h := e1
    subst e1
    obtain ⟨a, ha, rfl⟩ := map_get (i := i) e2
    show PTs _ ifs (tBo X.K f (δ.set j (.dat (h a))) ((l[i]?).any b))
    rw [ha]
    exact ht a (mem ha) s H C cl fp
  · rintro ⟨ds, i, d⟩ ⟨⟨e1, e2⟩, e3⟩ s H C cl fp
    have e1 : ds = l.map h := e1
    subst e1
    obtain ⟨a, ha, rfl⟩ := map_get (i := i) e2
    have e3 : (l[i]?).any b = true := e3
    rw [ha] at e3
    exact x_weak (he a (mem ha) e3 s H C cl fp) fun e q => ⟨a, ha, q⟩
  · rintro ds rfl
    exact ⟨by rw [List.length_map]; exact hz, by simp⟩
  · rintro ds i d acc rfl e2 ha
    obtain ⟨a, h1, rfl⟩ := map_get (i := i) e2
    show ((l[i]?).any b = false → _) ∧ ((l[i]?).any b = true → _)
    rw [h1, (split_at h1).2, filter_snoc]
    refine ⟨fun hb => ?_, fun hb e ⟨a', q1, q2⟩ => ?_⟩
    · rw [if_neg (by rw [show b a = false from hb]; decide), List.append_nil]; exact ha
    · cases (show some a = some a' from q1)
      rw [if_pos (show b a = true from hb), List.map_append, ha, q2]; rfl
  · rintro ds acc rfl ha
    rw [List.length_map, List.take_length] at ha
    exact ha
/-! ### ifs -/
/-- if c: .. (that leaves); then the rest -/
theorem ss_ifl {c : Expr} {a : List Stmt} {rest : List Stmt} {pos : Pos} {k : Bool} {N : List Sl → Prop} {R : V → Hp → Prop} (hc : PT X c (tBo X.K f δ k)) (ha : k = true → PSs X a (tX X.K f δ (fun _ => False) R)) (hb : k = false → PSs X rest (tX X.K f δ N R)) :
    PSs X (.If c a [] pos :: rest) (tX X.K f δ N R) :=
  s_cons (N1 := fun e => e = δ ∧ k = false) (s_if hc (fun q => ss_weak (ha q) fun _ z => z.elim) fun q => s_nil ⟨rfl, q⟩) fun _ ⟨e, q⟩ => by rw [e]; exact hb q
/-- if c: .. else: ..; then the rest from the slots that both come to -/
theorem ss_ifj {c : Expr} {a b : List Stmt} {rest : List Stmt} {pos : Pos} {k : Bool} {δ1 : List Sl} {N : List Sl → Prop} {R : V → Hp → Prop} (hc : PT X c (tBo X.K f δ k)) (ha : k = true → PSs X a (tX X.K f δ (fun e => e = δ1) R)) (hb : k = false → PSs X b (tX X.K f δ (fun e => e = δ1) R))
    (h : PSs X rest (tX X.K f δ1 N R)) : PSs X (.If c a b pos :: rest) (tX X.K f δ N R) := s_seq (s_if hc ha hb) h
/-! ### in, not in -/
def flatD : D → Bool
  | .non => true
  | .bl _ => true
  | .int _ => true
  | .str _ => true
  | _ => false
def eqD : D → D → Bool
  | .non, .non => true
  | .bl a, .bl b => a == b
  | .bl p, .int i => (if p then 1 else 0) == i
  | .int i, .bl p => i == (if p then 1 else 0)
  | .int a, .int b => a == b
  | .str a, .str b => a == b
  | _, _ => false
def inD (d : D) (ds : List D) : Bool := ds.any fun e => eqD e d
theorem flat_dat {K : PySem.W.Frag} {C : Addr} {G : Hp} {d : D} {v : V} (h : Dat K C G d v) (fl : flatD d = true) : flatV v = true := by
  cases d with
  | non => rw [h.non_inv]; rfl
  | bl b => rw [h.bl_inv]; rfl
  | int b => rw [h.int_inv]; rfl
  | str b => rw [h.str_inv]; rfl
  | tup ds => cases fl
  | lst ds => cases fl
  | scr ds => cases fl
  | dic ds => cases fl
  | obj ds => cases fl
theorem eq_dat {K : PySem.W.Frag} {C : Addr} {G : Hp} {d e : D} {v u : V} (h : Dat K C G d v) (k : Dat K C G e u) (fl : flatD d = true) (fe : flatD e = true) : eqV v u = eqD d e := by
  cases d <;> cases fl <;> cases e <;> cases fe <;> (simp only [Dat] at h k; rw [h, k]; rfl)
theorem flat_dats {K : PySem.W.Frag} {C : Addr} {G : Hp} : ∀ {ds : List D} {xs : List V}, Dats K C G ds xs → ds.all flatD = true → xs.all flatV = true
  | [], _, h, _ => by rw [h.inv0]; rfl
  | d :: ds, _, h, fl => by
    obtain ⟨x, r, rfl, h1, h2⟩ := h.inv
    rw [List.all_cons, Bool.and_eq_true] at fl ⊢
    exact ⟨flat_dat h1 fl.1, flat_dats h2 fl.2⟩
theorem in_dats {K : PySem.W.Frag} {C : Addr} {G : Hp} {d : D} {v : V} (hv : Dat K C G d v) (fv : flatD d = true) : ∀ {ds : List D} {xs : List V}, Dats K C G ds xs → ds.all flatD = true → inV v xs = inD d ds
  | [], _, h, _ => by rw [h.inv0]; rfl
  | e :: ds, _, h, fl => by
    obtain ⟨x, r, rfl, h1, h2⟩ := h.inv
    rw [List.all_cons, Bool.and_eq_true] at fl
    have ih := in_dats hv fv h2 fl.2
    unfold inV inD at ih ⊢
    rw [List.any_cons, List.any_cons, ih, eq_dat h1 hv fl.1 fv]
theorem in_read {d : D} {ds : List D} (neg : Bool) (fv : flatD d = true) (fl : ds.all flatD = true) {σ : L2.St} {H : Hp} {Q : VK} {ta tb : TE} (ha : ta = tD X.K f δ d) (hb : tb = tS X.K f δ ds)
    (h : tD X.K f δ (.bl (if neg then !inD d ds else inD d ds)) σ H Q) : L2.tOp (rIn X.K neg) ta tb σ H Q := by
  subst ha; subst hb
  obtain ⟨G, rp, q⟩ := h
  refine ⟨G, rp, fun v d1 G1 H1 t1 p1 z1 => ⟨G1, rp.step t1, fun a xs G2 H2 t2 st z2 => ?_⟩⟩
  subst p1
  refine ⟨a, xs, rfl, st G2 H2 (Step.refl t2.gh), flat_dat z1 fv, flat_dats z2 fl, ?_⟩
  rw [in_dats (z1.mono t2.gg) fv z2 fl]
  exact q _ _ G2 H2 (t1.trans t2) rfl dat_bl
theorem t_in {a b : Expr} {pos : Pos} {d : D} {ds : List D} (ha : PE X a (tD X.K f δ d)) (hb : PE X b (tS X.K f δ ds)) (fv : flatD d = true := by rfl) (fl : ds.all flatD = true := by rfl) (hm : behindInMarks .In b = false := by first | rfl | decide +kernel) :
    PT X (.Compare a [.In] [b] pos) (tBo X.K f δ (inD d ds)) :=
  pt_imp (pt_cmpR op_in_seq ha hb hm) fun σ H Q ⟨G, rp, q⟩ => in_read (X := X) false fv fl rfl rfl ⟨G, rp, fun v e G' H' t p z => by subst p; exact ⟨_, z.bl_inv, q G' H' t⟩⟩
theorem t_nin {a b : Expr} {pos : Pos} {d : D} {ds : List D} (ha : PE X a (tD X.K f δ d)) (hb : PE X b (tS X.K f δ ds)) (fv : flatD d = true := by rfl) (fl : ds.all flatD = true := by rfl) (hm : behindInMarks .NotIn b = false := by first | rfl | decide +kernel) :
    PT X (.Compare a [.NotIn] [b] pos) (tBo X.K f δ (!inD d ds)) :=
  pt_imp (pt_cmpR op_notIn_seq ha hb hm) fun σ H Q ⟨G, rp, q⟩ => in_read (X := X) true fv fl rfl rfl ⟨G, rp, fun v e G' H' t p z => by subst p; exact ⟨_, z.bl_inv, q G' H' t⟩⟩
theorem x_in {a b : Expr} {pos : Pos} {d : D} {ds : List D} (ha : PE X a (tD X.K f δ d)) (hb : PE X b (tS X.K f δ ds)) (fv : flatD d = true := by rfl) (fl : ds.all flatD = true := by rfl) (hm : behindInMarks .In b = false := by first | rfl | decide +kernel) :
    PE X (.Compare a [.In] [b] pos) (tD X.K f δ (.bl (inD d ds))) :=
  pe_imp (pe_cmpR op_in_seq ha hb hm) fun σ H Q h => in_read (X := X) false fv fl rfl rfl h
end
end Un
set_option maxHeartbeats 4000000
/-! The text by places; what the built-in names hold. -/
namespace Un
open PySem L2
structure Bt (mg : Str → Option Value) : Prop where
  len : mg "len" = none
  int : mg "int" = none
  tuple : mg "tuple" = none
  range : mg "range" = none
  reversed : mg "reversed" = none
  list : mg "list" = none
  str : mg "str" = none
  sum : mg "sum" = none
  min : mg "min" = none
  sorted : mg "sorted" = none
  isinstance : mg "isinstance" = none
  bool : mg "bool" = none
  dict : mg "dict" = none
  repr : mg "repr" = none
end Un
set_option maxHeartbeats 4000000
namespace Un
open PySem L2
def valueAt (p : Int) (poly : List Int) (x : Int) : Int := poly.foldr (fun n a => (a * x + n) % p) 0
def S_value_at (ds : List D) (d : D) : Prop := ∃ p poly x, ds = [.int p, .tup (inz poly), .int x] ∧ (0 < p ∧ p ≤ 100000) ∧ d = .int (valueAt p poly x)
section
variable {P : Program} {w : World} {K : PySem.W.Frag} {mg : Str → Option Value} {base : Heap} {C : Addr} {g : Addr} {fd : FuncData}
abbrev s_value_at : Stmt := top 8
theorem sc_value_at : FnScope ["p", "poly", "x", "found", "number"] ["p", "poly", "x"] (defScope s_value_at) := ⟨rfl, rfl, rfl, by decide +kernel, rfl, by decide +kernel, by decide +kernel⟩
theorem valueAt_range {p : Int} (hp : 0 < p) (poly : List Int) (x : Int) : 0 ≤ valueAt p poly x ∧ valueAt p poly x < p := by
  cases poly with
  | nil => exact ⟨Int.le_refl 0, hp⟩
  | cons n r => exact ⟨Int.emod_nonneg _ (by omega), Int.emod_lt_of_pos _ hp⟩
theorem valueAt_rev (p : Int) (poly : List Int) (x : Int) : valueAt p poly x = poly.reverse.foldl (fun a n => (a * x + n) % p) 0 := by
  unfold valueAt
  rw [List.foldl_reverse]
theorem ok_value_at (B : Bt mg) (F : Fun K "value_at" "value_at" s_value_at g fd) : FnOk P w K mg base CX0 1 g fd ["p", "poly", "x"] (spD K C 3 S_value_at) := by
  refine fn_D F sc_value_at rfl fun cdv A outer s H E G ds d hr hS => ?_
  obtain ⟨p, poly, x, rfl, ⟨hp, hp2⟩, rfl⟩ := hS
  have nd := sc_value_at.nd
  refine s_seq (δ1 := [.dat (.int p), .dat (.tup (inz poly)), .dat (.int x), .dat (.int 0), .no]) (s_set (i := 3) nd rfl (.inl rfl) (lt_ rfl) x_int rfl) ?_
  refine s_cons (N1 := fun δ' => ∃ v, δ' = [.dat (.int p), .dat (.tup (inz poly)), .dat (.int x), .dat (.int (valueAt p poly x)), v])
    (s_forl (l := poly.reverse) (h := D.int) (j := 4) (fun pre δ' => ∃ v, δ' = [.dat (.int p), .dat (.tup (inz poly)), .dat (.int x), .dat (.int (valueAt p pre.reverse x)), v]) PassesOwn.never rfl
      (by rw [List.map_reverse]; exact i_rev rfl B.reversed (x_of (pv 1) rfl)) (pg_name (i := 4) nd rfl (.inl rfl)) ⟨.no, rfl⟩ ?_ ?_ ?_) ?_
  · rintro i _ ⟨v, rfl⟩; exact lt_ rfl
  · rintro pre n post _ hd ⟨v, rfl⟩
    have hv := valueAt_range hp pre.reverse x
    refine s_one (s_weak (s_set (i := 3) nd rfl (.inl rfl) (lt_ rfl) (x_mod hp (x_inti rfl B.int (x_add (x_mul (.inl ⟨by omega, by omega⟩) (x_of (pv 3) rfl) (x_of (pv 2) rfl)) (x_of (pv 4) rfl))) (x_of (pv 0) rfl)) rfl) ?_)
    rintro _ rfl
    exact ⟨.dat (.int n), by rw [List.reverse_append]; rfl⟩
  · rintro _ ⟨v, rfl⟩
    exact ⟨v, by rw [List.reverse_reverse]⟩
  · rintro _ ⟨v, rfl⟩
    exact s_one (s_ret (x_of (pv 3) rfl))
end
end Un
/-! plain facts about remainders -/
namespace Un
theorem emod_eq_of_sub {a b p : Int} (h : ∃ c, a - b = p * c) : a % p = b % p := by
  obtain ⟨c, h⟩ := h
  have e : a = b + p * c := by omega
  rw [e, Int.add_mul_emod_self_left]
theorem pow_emod (a p : Int) (k : Nat) : (a % p) ^ k % p = a ^ k % p := by
  induction k with
  | zero => rw [Int.pow_zero, Int.pow_zero]
  | succ k ih => rw [Int.pow_succ, Int.pow_succ, Int.mul_emod, ih, Int.emod_emod, ← Int.mul_emod]
theorem mul_emod_l (a b p : Int) : (a % p * b) % p = (a * b) % p := by rw [Int.mul_emod, Int.emod_emod, ← Int.mul_emod]
theorem mul_emod_r (a b p : Int) : (a * (b % p)) % p = (a * b) % p := by rw [Int.mul_emod, Int.emod_emod, ← Int.mul_emod]
theorem add_emod_l (a b p : Int) : (a % p + b) % p = (a + b) % p := by rw [Int.emod_add_emod]
theorem add_emod_r (a b p : Int) : (a + b % p) % p = (a + b) % p := by rw [Int.add_emod_emod]
/-- one turn of the powers -/
theorem pow_turn (p f q a : Int) (k K : Nat) (h : (f * q ^ k) % p = a ^ K % p) :
    ((if k % 2 = 1 then (f * q) % p else f) * ((q * q) % p) ^ (k / 2)) % p = a ^ K % p := by
  rw [Int.mul_emod, pow_emod, ← Int.mul_emod]
  have e : (q * q) ^ (k / 2) = q ^ (2 * (k / 2)) := by rw [Int.pow_mul, Int.pow_succ, Int.pow_succ, Int.pow_zero, Int.one_mul]
  rw [e]
  by_cases c : k % 2 = 1
  · rw [if_pos c, mul_emod_l, Int.mul_assoc, ← h]
    have e2 : q * q ^ (2 * (k / 2)) = q ^ k := by
      have : k = 2 * (k / 2) + 1 := by omega
      conv => rhs; rw [this, Int.pow_succ, Int.mul_comm]
    rw [e2]
  · rw [if_neg c, ← h]
    have e2 : 2 * (k / 2) = k := by omega
    rw [e2]
end Un
set_option maxHeartbeats 4000000
namespace Un
open PySem L2
local macro_rules | `(tactic| walk_at "mul") => `(tactic| first | exact Or.inl ⟨by omega, by omega⟩ | exact Or.inr ⟨by omega, by omega⟩)
local macro_rules | `(tactic| walk_at "pos") => `(tactic| first | assumption | omega | decide)
local macro_rules | `(tactic| walk_at "div") => `(tactic| exact ⟨by first | assumption | omega | decide, by first | assumption | omega | decide⟩)
def S_power (ds : List D) (d : D) : Prop := ∃ (p a : Int) (k : Nat), ds = [.int p, .int a, .int (k : Int)] ∧ (0 < p ∧ p ≤ 100000) ∧ d = .int (a ^ k % p)
def S_inverse (ds : List D) (d : D) : Prop := ∃ (p a : Int), ds = [.int p, .int a] ∧ (2 < p ∧ p ≤ 100000) ∧ d = .int (a ^ (p - 2).toNat % p)
def addM (p : Int) (one other : List Int) : List Int := (one.zip other).map fun x => (x.1 + x.2) % p
def S_added (ds : List D) (d : D) : Prop := ∃ (p : Int) (one other : List Int), ds = [.int p, .tup (inz one), .tup (inz other)] ∧ (0 < p ∧ p ≤ 100000) ∧ one.length = other.length ∧ one.length ≤ 1000 ∧ d = .tup (inz (addM p one other))
def scaleM (p c : Int) (poly : List Int) : List Int := poly.map fun x => (c * x) % p
def S_scaled (ds : List D) (d : D) : Prop := ∃ (p c : Int) (poly : List Int), ds = [.int p, .int c, .tup (inz poly)] ∧ (0 < p ∧ p ≤ 100000) ∧ (-100000 ≤ c ∧ c ≤ 100000) ∧ poly.length ≤ 1000 ∧ d = .tup (inz (scaleM p c poly))
section
variable {P : Program} {w : World} {K : PySem.W.Frag} {mg : Str → Option Value} {base : Heap} {C : Addr} {g : Addr} {fd : FuncData}
abbrev s_power : Stmt := top 5
theorem sc_power : FnScope ["p", "a", "k", "found", "square"] ["p", "a", "k"] (defScope s_power) := ⟨rfl, rfl, rfl, by decide +kernel, rfl, by decide +kernel, by decide +kernel⟩
theorem ok_power (B : Bt mg) (F : Fun K "power" "power" s_power g fd) : FnOk P w K mg base CX0 1 g fd ["p", "a", "k"] (spD K C 3 S_power) := by
  refine fn_D F sc_power rfl fun cdv A outer s H E G ds d hr hS => ?_
  obtain ⟨p, a, k, rfl, ⟨hp, hp2⟩, rfl⟩ := hS
  have nd := sc_power.nd
  refine s_seq (s_set (i := 3) nd rfl (.inl rfl) (lt_ rfl) (x_mod (by walk_at "pos") (x_inti rfl B.int x_int) (x_of (pv 0) rfl)) rfl) ?_
  refine s_seq (s_set (i := 4) nd rfl (.inl rfl) (lt_ rfl) (x_mod (by walk_at "pos") (x_inti rfl B.int (x_of (pv 1) rfl)) (x_of (pv 0) rfl)) rfl) ?_
  refine s_cons (N1 := fun e => ∃ q, e = [.dat (.int p), .dat (.int a), .dat (.int 0), .dat (.int (a ^ k % p)), .dat (.int q)])
    (s_while (fun m e => ∃ (f q : Int), e = [.dat (.int p), .dat (.int a), .dat (.int (m : Nat)), .dat (.int f), .dat (.int q)] ∧ (0 ≤ f ∧ f < p) ∧ (0 ≤ q ∧ q < p) ∧ (f * q ^ m) % p = a ^ k % p)
      (fun e => match e with | [_, _, .dat (.int m), _, _] => decide (0 < m) | _ => false) PassesOwn.never ⟨k, 1 % p, a % p, rfl, ⟨Int.emod_nonneg _ (by omega), Int.emod_lt_of_pos _ hp⟩, ⟨Int.emod_nonneg _ (by omega), Int.emod_lt_of_pos _ hp⟩, ?_⟩ ?_ ?_ ?_) ?_
  · rw [mul_emod_l, Int.one_mul, pow_emod]
  · rintro m _ ⟨f, q, rfl, _⟩
    exact t_cmp op_gt rd_gt (x_of (pv 2) rfl) x_int (nomark _)
  · rintro m _ ⟨f, q, rfl, ⟨f0, f1⟩, ⟨q0, q1⟩, h⟩ hk
    have hm : 0 < m := by have : (0 : Int) < (m : Nat) := of_decide_eq_true hk; omega
    refine ss_ifj (δ1 := [.dat (.int p), .dat (.int a), .dat (.int (m : Nat)), .dat (.int (if m % 2 = 1 then f * q % p else f)), .dat (.int q)]) (t_cmp op_eq rd_eqI (x_mod (by walk_at "pos") (x_inti rfl B.int (x_of (pv 2) rfl)) x_int) x_int (nomark _)) (fun hc => ?_) (fun hc => ?_) ?_
    · have hc : (m : Int) % 2 = 1 := of_decide_eq_true hc
      rw [if_pos (show m % 2 = 1 by omega)]
      exact s_one (s_set (i := 3) nd rfl (.inl rfl) (lt_ rfl) (x_mod (by walk_at "pos") (x_inti rfl B.int (x_mul (by walk_at "mul") (x_of (pv 3) rfl) (x_of (pv 4) rfl))) (x_of (pv 0) rfl)) rfl)
    · have hc : ¬ (m : Int) % 2 = 1 := of_decide_eq_false hc
      rw [if_neg (show ¬ m % 2 = 1 by omega)]
      exact s_nil rfl
    refine s_seq (s_set (i := 4) nd rfl (.inl rfl) (lt_ rfl) (x_mod (by walk_at "pos") (x_inti rfl B.int (x_mul (by walk_at "mul") (x_of (pv 4) rfl) (x_of (pv 4) rfl))) (x_of (pv 0) rfl)) rfl) ?_
    refine s_one (s_weak (s_set (i := 2) nd rfl (.inl rfl) (lt_ rfl) (x_fdiv (by walk_at "div") (x_of (pv 2) rfl) x_int) rfl) ?_)
    rintro _ rfl
    refine ⟨m / 2, by omega, _, _, rfl, ?_, ⟨Int.emod_nonneg _ (by omega), Int.emod_lt_of_pos _ hp⟩, pow_turn p f q a m k h⟩
    split
    · exact ⟨Int.emod_nonneg _ (by omega), Int.emod_lt_of_pos _ hp⟩
    · exact ⟨f0, f1⟩
  · rintro m _ ⟨f, q, rfl, ⟨f0, f1⟩, ⟨q0, q1⟩, h⟩ hk
    have hm : m = 0 := by have : ¬ (0 : Int) < (m : Nat) := of_decide_eq_false hk; omega
    subst hm
    rw [Int.pow_zero, Int.mul_one, Int.emod_eq_of_lt f0 f1] at h
    exact ⟨q, by rw [h]; rfl⟩
  · rintro _ ⟨q, rfl⟩
    exact s_one (s_ret (x_of (pv 3) rfl))
abbrev s_inverse : Stmt := top 6
theorem sc_inverse : FnScope ["p", "a"] ["p", "a"] (defScope s_inverse) := ⟨rfl, rfl, rfl, by decide +kernel, rfl, by decide +kernel, by decide +kernel⟩
theorem ok_inverse (B : Bt mg) (c_power : Glo P w K mg base "power" 1 ["p", "a", "k"] (spD K C 3 S_power)) (F : Fun K "inverse" "inverse" s_inverse g fd) : FnOk P w K mg base CX0 2 g fd ["p", "a"] (spD K C 2 S_inverse) := by
  refine fn_D F sc_inverse rfl fun cdv A outer s H E G ds d hr hS => ?_
  obtain ⟨p, a, rfl, ⟨hp, hp2⟩, rfl⟩ := hS
  exact s_one (s_ret (x_if (t_cmp op_gt rd_gt (x_of (pv 0) rfl) x_int (nomark _))
    (fun hc => x_call c_power hr (a_cons (x_of (pv 0) rfl) (a_cons (x_of (pv 1) rfl) (a_cons (x_sub (x_of (pv 0) rfl) x_int) a_nil))) ⟨rfl, p, a, (p - 2).toNat, by rw [Int.toNat_of_nonneg (by omega)], ⟨by omega, hp2⟩, rfl⟩)
    (fun hc => absurd (of_decide_eq_false hc) (fun h => h hp))))
abbrev s_added : Stmt := top 9
abbrev N_added : List Str := ["p", "one", "other", "k"]
theorem sc_added : FnScope N_added ["p", "one", "other"] (defScope s_added) := ⟨rfl, rfl, rfl, by decide +kernel, rfl, by decide +kernel, by decide +kernel⟩
theorem zip_range (one other : List Int) (h : one.length = other.length) (f : Int → Int → D) : (List.range one.length).map (fun i => f (one.getD i 0) (other.getD i 0)) = (one.zip other).map fun x => f x.1 x.2 := by
  apply List.ext_getElem
  · simp [h]
  · intro i h1 h2
    have l1 : i < one.length := by simpa using h1
    have l2 : i < other.length := by omega
    simp [l1, l2]
theorem inz_at {ns : List Int} {i : Nat} (h : i < ns.length) : atI (inz ns) ((i : Nat) : Int) = some (.int (ns.getD i 0)) := by
  apply atI_nat
  unfold inz
  rw [List.getElem?_map, List.getElem?_eq_getElem h]
  simp [h]
theorem ok_added (B : Bt mg) (F : Fun K "added" "added" s_added g fd) : FnOk P w K mg base CX0 1 g fd ["p", "one", "other"] (spD K C 3 S_added) := by
  refine fn_D F sc_added rfl fun cdv A outer s H E G ds d hr hS => ?_
  obtain ⟨p, one, other, rfl, ⟨hp, hp2⟩, hl, hz, rfl⟩ := hS
  have nd := sc_added.nd
  have el : (inz one).length = one.length := List.length_map ..
  have e : D.tup (inz (addM p one other)) = .tup ((List.range (inz one).length).map fun i => .int ((one.getD i 0 + other.getD i 0) % p)) := by
    rw [el, zip_range one other hl fun x y => .int ((x + y) % p)]
    unfold addM inz; rw [List.map_map]; rfl
  rw [e]
  exact s_one (s_ret (x_tuple rfl B.tuple (o_new (x_lca (l := List.range (inz one).length) (h := fun i => D.int (0 + (i : Nat))) (fun i => D.int ((one.getD i 0 + other.getD i 0) % p)) (j := 3) rfl nd (lt_ rfl) (by rw [List.length_range, el]; omega) (i_s (i_rng1 (by rw [el]; omega) rfl B.range (x_len rfl B.len (o_tup (x_of (pv 1) rfl))))) (blkOk_by (N := N_added) (sc := defScope s_added) (by decide +kernel)) (fun _ _ _ _ _ => pg_name (i := 3) nd rfl (.inl rfl))
      (fun a ha _ _ _ _ _ => (x_mod (by walk_at "pos") (x_inti rfl B.int (x_add (x_ixt (x_of (pv 1) rfl) (x_of (pv 3) rfl) (by rw [Int.zero_add]; exact inz_at (by rw [List.mem_range, el] at ha; omega))) (x_ixt (x_of (pv 2) rfl) (x_of (pv 3) rfl) (by rw [Int.zero_add]; exact inz_at (by rw [List.mem_range, el] at ha; omega))))) (x_of (pv 0) rfl)))))))
abbrev s_scaled : Stmt := top 10
abbrev N_scaled : List Str := ["p", "c", "poly", "number"]
theorem sc_scaled : FnScope N_scaled ["p", "c", "poly"] (defScope s_scaled) := ⟨rfl, rfl, rfl, by decide +kernel, rfl, by decide +kernel, by decide +kernel⟩
theorem ok_scaled (B : Bt mg) (F : Fun K "scaled" "scaled" s_scaled g fd) : FnOk P w K mg base CX0 1 g fd ["p", "c", "poly"] (spD K C 3 S_scaled) := by
  refine fn_D F sc_scaled rfl fun cdv A outer s H E G ds d hr hS => ?_
  obtain ⟨p, c, poly, rfl, ⟨hp, hp2⟩, hc, hz, rfl⟩ := hS
  have nd := sc_scaled.nd
  have e : D.tup (inz (scaleM p c poly)) = .tup (poly.map fun x => .int (c * x % p)) := by unfold scaleM inz; rw [List.map_map]; rfl
  rw [e]
  exact s_one (s_ret (x_tuple rfl B.tuple (o_new (x_lca (l := poly) (h := D.int) (fun x => D.int (c * x % p)) (j := 3) rfl nd (lt_ rfl) (by omega) (i_s (i_tup (x_of (pv 2) rfl))) (blkOk_by (N := N_scaled) (sc := defScope s_scaled) (by decide +kernel)) (fun _ _ _ _ _ => pg_name (i := 3) nd rfl (.inl rfl))
      (fun a ha _ _ _ _ _ => (x_mod (by walk_at "pos") (x_inti rfl B.int (x_mul (by walk_at "mul") (x_of (pv 1) rfl) (x_of (pv 3) rfl))) (x_of (pv 0) rfl)))))))
end
end Un
set_option maxHeartbeats 4000000
namespace Un
open PySem L2
local macro_rules | `(tactic| walk_at "mul") => `(tactic| first | exact Or.inl ⟨by omega, by omega⟩ | exact Or.inr ⟨by omega, by omega⟩)
local macro_rules | `(tactic| walk_at "pos") => `(tactic| first | assumption | omega | decide)
local macro_rules | `(tactic| walk_at "div") => `(tactic| exact ⟨by first | assumption | omega | decide, by first | assumption | omega | decide⟩)
/-! slices at plain places -/
theorem cutD_to (ds : List D) (k : Nat) : cutD ds none (some (k : Int)) = ds.take k := by
  unfold cutD
  rw [HT.sIx_none, HT.sIx_nat, List.drop_zero, Nat.sub_zero]
  rcases Nat.le_total k ds.length with h | h
  · rw [Nat.min_eq_left h]
  · rw [Nat.min_eq_right h, List.take_length, List.take_of_length_le h]
theorem cutD_from (ds : List D) (k : Nat) : cutD ds (some (k : Int)) none = ds.drop k := by
  unfold cutD
  rw [HT.sIx_none, HT.sIx_nat]
  rcases Nat.le_total k ds.length with h | h
  · rw [Nat.min_eq_left h]
    exact List.take_of_length_le (by rw [List.length_drop]; exact Nat.le_refl _)
  · rw [Nat.min_eq_right h, List.drop_length, List.drop_of_length_le h]; simp
theorem cutD_mid (ds : List D) (a b : Nat) : cutD ds (some (a : Int)) (some (b : Int)) = (ds.drop a).take (b - a) := by
  unfold cutD
  rw [HT.sIx_nat, HT.sIx_nat]
  rcases Nat.le_total a ds.length with h | h
  · rw [Nat.min_eq_left h]
    rcases Nat.le_total b ds.length with h2 | h2
    · rw [Nat.min_eq_left h2]
    · rw [Nat.min_eq_right h2, List.take_of_length_le (by rw [List.length_drop]; exact Nat.le_refl _), List.take_of_length_le (by rw [List.length_drop]; omega)]
  · rw [Nat.min_eq_right h, List.drop_length, List.drop_of_length_le h]; simp
theorem inz_take (ns : List Int) (k : Nat) : (inz ns).take k = inz (ns.take k) := by unfold inz; rw [List.map_take]
theorem inz_drop (ns : List Int) (k : Nat) : (inz ns).drop k = inz (ns.drop k) := by unfold inz; rw [List.map_drop]
theorem inz_app (ms ns : List Int) : inz ms ++ inz ns = inz (ms ++ ns) := by unfold inz; rw [List.map_append]
theorem inz_len (ns : List Int) : (inz ns).length = ns.length := List.length_map ..
/-! mirrors -/
def withRoot (p : Int) (poly : List Int) (pt : Int) : List Int := addM p (0 :: poly) (scaleM p (0 - pt) poly ++ [0])
def rootsAt (p : Int) (pts : List Int) : List Int := pts.foldl (withRoot p) [1 % p]
def baseAt (p : Int) (pts : List Int) (i : Nat) : List Int :=
  scaleM p ((valueAt p (rootsAt p (pts.take i ++ pts.drop (i + 1))) (pts.getD i 0)) ^ (p - 2).toNat % p) (rootsAt p (pts.take i ++ pts.drop (i + 1)))
def basesM (p : Int) (pts : List Int) : List (List Int) := (List.range pts.length).map (baseAt p pts)
def weightsM (p : Int) (pts : List Int) (x : Int) : List Int := (basesM p pts).map fun b => valueAt p b x
theorem withRoot_len (p : Int) (poly : List Int) (pt : Int) : (withRoot p poly pt).length = poly.length + 1 := by simp [withRoot, addM, scaleM]
theorem rootsAt_len (p : Int) (pts : List Int) : (rootsAt p pts).length = pts.length + 1 := by
  have h : ∀ (pts : List Int) (l : List Int), (pts.foldl (withRoot p) l).length = l.length + pts.length := by
    intro pts
    induction pts with
    | nil => intro l; simp
    | cons q r ih => intro l; rw [List.foldl_cons, ih, withRoot_len, List.length_cons]; omega
  unfold rootsAt; rw [h]; simp; omega
structure Se where
  p : Int
  n : Nat
  t : Nat
def Se.d (s : Se) : D := .tup [.str "setting", .int s.p, .int (s.n : Int), .int (s.t : Int)]
structure Se.Ok (s : Se) : Prop where
  p2 : 2 < s.p
  p3 : s.p ≤ 10007
  n1 : 1 ≤ s.n
  n2 : s.n ≤ 5
  np : (s.n : Int) < s.p
  tn : 2 * s.t + 1 ≤ s.n
/-- the parties -/
def pts (n : Nat) : List Int := (List.range n).map fun (i : Nat) => 1 + ((i : Nat) : Int)
theorem pts_len (n : Nat) : (pts n).length = n := by simp [pts]
theorem rng_pts (n : Nat) : rngD 1 n = inz (pts n) := by unfold rngD inz pts; rw [List.map_map]; rfl
def Small (ns : List Int) : Prop := ns.length ≤ 20 ∧ ∀ z ∈ ns, -1000 ≤ z ∧ z ≤ 1000
def S_with_root (ds : List D) (d : D) : Prop := ∃ (p : Int) (poly : List Int) (pt : Int), ds = [.int p, .tup (inz poly), .int pt] ∧ (0 < p ∧ p ≤ 100000) ∧ poly.length ≤ 100 ∧ (-1000 ≤ pt ∧ pt ≤ 1000) ∧ d = .tup (inz (withRoot p poly pt))
def S_roots_at (ds : List D) (d : D) : Prop := ∃ (p : Int) (ns : List Int), ds = [.int p, .tup (inz ns)] ∧ (0 < p ∧ p ≤ 100000) ∧ Small ns ∧ d = .tup (inz (rootsAt p ns))
def S_bases (ds : List D) (d : List D) : Prop := ∃ (p : Int) (ns : List Int), ds = [.int p, .tup (inz ns)] ∧ (2 < p ∧ p ≤ 100000) ∧ Small ns ∧ d = (basesM p ns).map fun b => .tup (inz b)
def S_weights (ds : List D) (d : D) : Prop := ∃ (p : Int) (ns : List Int) (x : Int), ds = [.int p, .tup (inz ns), .int x] ∧ (2 < p ∧ p ≤ 100000) ∧ Small ns ∧ d = .tup (inz (weightsM p ns x))
def S_parties (ds : List D) (d : D) : Prop := ∃ s : Se, ds = [s.d] ∧ s.Ok ∧ d = .tup (inz (pts s.n))
def sharesM (s : Se) (poly : List Int) : List Int := (pts s.n).map (valueAt s.p poly)
def S_shares_of (ds : List D) (d : D) : Prop := ∃ (s : Se) (poly : List Int), ds = [s.d, .tup (inz poly)] ∧ s.Ok ∧ d = .tup (inz (sharesM s poly))
def S_shares (ds : List D) (d : D) : Prop := ∃ (s : Se) (z : Int) (coins : List Int), ds = [s.d, .int z, .tup (inz coins)] ∧ s.Ok ∧ coins.length ≤ 1000 ∧ d = .tup (inz (sharesM s (z :: coins)))
section
variable {P : Program} {w : World} {K : PySem.W.Frag} {mg : Str → Option Value} {base : Heap} {C : Addr} {g : Addr} {fd : FuncData}
abbrev s_with_root : Stmt := top 11
theorem sc_with_root : FnScope ["p", "poly", "point", "up", "down"] ["p", "poly", "point"] (defScope s_with_root) := ⟨rfl, rfl, rfl, by decide +kernel, rfl, by decide +kernel, by decide +kernel⟩
theorem ok_with_root (B : Bt mg) (c_added : Glo P w K mg base "added" 1 ["p", "one", "other"] (spD K C 3 S_added)) (c_scaled : Glo P w K mg base "scaled" 1 ["p", "c", "poly"] (spD K C 3 S_scaled)) (F : Fun K "with_root" "with_root" s_with_root g fd) :
    FnOk P w K mg base CX0 2 g fd ["p", "poly", "point"] (spD K C 3 S_with_root) := by
  refine fn_D F sc_with_root rfl fun cdv A outer s H E G ds d hr hS => ?_
  obtain ⟨p, poly, pt, rfl, hp, hz, hpt, rfl⟩ := hS
  have nd := sc_with_root.nd
  refine s_seq (s_set (i := 3) nd rfl (.inl rfl) (lt_ rfl) (x_cat (by rw [inz_len, sizeLine_eq]; show 1 + _ ≤ _; omega) (x_tup (a_cons x_int a_nil)) (x_of (pv 1) rfl)) rfl) ?_
  refine s_seq (s_set (i := 4) nd rfl (.inl rfl) (lt_ rfl) (x_cat (by rw [inz_len, sizeLine_eq]; show _ + 1 ≤ _; unfold scaleM; rw [List.length_map]; omega) (x_call c_scaled hr (a_cons (x_of (pv 0) rfl) (a_cons (x_sub x_int (x_of (pv 2) rfl)) (a_cons (x_of (pv 1) rfl) a_nil))) ⟨rfl, p, 0 - pt, poly, rfl, hp, ⟨by omega, by omega⟩, by omega, rfl⟩) (x_tup (a_cons x_int a_nil))) rfl) ?_
  exact s_one (s_ret (x_call c_added hr (a_cons (x_of (pv 0) rfl) (a_cons (x_of (pv 3) rfl) (a_cons (x_of (pv 4) rfl) a_nil)))
    ⟨rfl, p, 0 :: poly, scaleM p (0 - pt) poly ++ [0], by rw [← inz_app]; rfl, hp, by simp [scaleM], by rw [List.length_cons]; omega, rfl⟩))
abbrev s_roots_at : Stmt := top 12
theorem sc_roots_at : FnScope ["p", "points", "poly", "point"] ["p", "points"] (defScope s_roots_at) := ⟨rfl, rfl, rfl, by decide +kernel, rfl, by decide +kernel, by decide +kernel⟩
theorem ok_roots_at (B : Bt mg) (c_with_root : Glo P w K mg base "with_root" 2 ["p", "poly", "point"] (spD K C 3 S_with_root)) (F : Fun K "roots_at" "roots_at" s_roots_at g fd) :
    FnOk P w K mg base CX0 3 g fd ["p", "points"] (spD K C 2 S_roots_at) := by
  refine fn_D F sc_roots_at rfl fun cdv A outer s H E G ds d hr hS => ?_
  obtain ⟨p, ns, rfl, hp, hz, rfl⟩ := hS
  have nd := sc_roots_at.nd
  refine s_seq (s_set (i := 2) nd rfl (.inl rfl) (lt_ rfl) (x_tup (a_cons (x_mod hp.1 (x_inti rfl B.int x_int) (x_of (pv 0) rfl)) a_nil)) rfl) ?_
  refine s_cons (N1 := fun e => ∃ v, e = [.dat (.int p), .dat (.tup (inz ns)), .dat (.tup (inz (rootsAt p ns))), v]) (s_forl (l := ns) (h := D.int) (j := 3) (fun pre e => ∃ v, e = [.dat (.int p), .dat (.tup (inz ns)), .dat (.tup (inz (rootsAt p pre))), v]) PassesOwn.never rfl (i_tup (x_of (pv 1) rfl)) (pg_name (i := 3) nd rfl (.inl rfl)) ?_ ?_ ?_ ?_) ?_
  · exact ⟨.no, rfl⟩
  · rintro i _ ⟨v, rfl⟩; exact lt_ rfl
  · rintro pre q post _ e ⟨v, rfl⟩
    have hq := hz.2 q (by rw [e]; simp)
    have hl : pre.length + 1 ≤ 20 := by have := hz.1; rw [e] at this; simp at this; omega
    refine s_one (s_weak (s_set (i := 2) nd rfl (.inl rfl) (lt_ rfl) (x_call c_with_root hr (a_cons (x_of (pv 0) rfl) (a_cons (x_of (pv 2) rfl) (a_cons (x_of (pv 3) rfl) a_nil))) ⟨rfl, p, rootsAt p pre, q, rfl, hp, by rw [rootsAt_len]; omega, hq, rfl⟩) rfl) ?_)
    rintro _ rfl
    exact ⟨.dat (.int q), by unfold rootsAt; rw [List.foldl_append]; rfl⟩
  · rintro _ ⟨v, rfl⟩; exact ⟨v, rfl⟩
  · rintro _ ⟨v, rfl⟩
    exact s_one (s_ret (x_of (pv 2) rfl))
abbrev s_bases : Stmt := top 13
theorem sc_bases : FnScope ["p", "points", "found", "place", "poly"] ["p", "points"] (defScope s_bases) := ⟨rfl, rfl, rfl, by decide +kernel, rfl, by decide +kernel, by decide +kernel⟩
theorem ok_bases (B : Bt mg) (c_roots_at : Glo P w K mg base "roots_at" 3 ["p", "points"] (spD K C 2 S_roots_at)) (c_scaled : Glo P w K mg base "scaled" 1 ["p", "c", "poly"] (spD K C 3 S_scaled)) (c_inverse : Glo P w K mg base "inverse" 2 ["p", "a"] (spD K C 2 S_inverse))
    (c_value_at : Glo P w K mg base "value_at" 1 ["p", "poly", "x"] (spD K C 3 S_value_at)) (F : Fun K "bases" "bases" s_bases g fd) : FnOk P w K mg base CX0 4 g fd ["p", "points"] (spN K C 2 S_bases) := by
  refine fn_N F sc_bases rfl fun cdv A outer s H E G ds d hr hS => ?_
  obtain ⟨p, ns, rfl, ⟨hp1, hp2⟩, hz, rfl⟩ := hS
  have nd := sc_bases.nd
  have hl := hz.1
  refine s_seq (s_setN (i := 2) nd rfl (.inl rfl) (lt_ rfl) (x_lst a_nil) rfl) ?_
  refine s_cons (N1 := fun e => ∃ u v, e = [.dat (.int p), .dat (.tup (inz ns)), .own ((basesM p ns).map fun b => .tup (inz b)), u, v])
    (s_forr (n := (inz ns).length) (j := 3) (fun i e => ∃ u v, e = [.dat (.int p), .dat (.tup (inz ns)), .own (((List.range i).map (baseAt p ns)).map fun b => .tup (inz b)), u, v]) PassesOwn.never rfl (i_rng1 (by rw [inz_len]; omega) rfl B.range (x_len rfl B.len (o_tup (x_of (pv 1) rfl)))) (pg_name (i := 3) nd rfl (.inl rfl)) ?_ ?_ ?_ ?_) ?_
  · exact ⟨.no, .no, rfl⟩
  · rintro i _ ⟨u, v, rfl⟩; exact lt_ rfl
  · rintro i _ hi ⟨u, v, rfl⟩
    rw [inz_len] at hi
    rw [Int.zero_add]
    have e1 : cutD (inz ns) none (some ((i : Nat) : Int)) = inz (ns.take i) := by rw [cutD_to, inz_take]
    have e2 : cutD (inz ns) (some (((i : Nat) : Int) + 1)) none = inz (ns.drop (i + 1)) := by
      rw [show ((i : Nat) : Int) + 1 = ((i + 1 : Nat) : Int) by omega, cutD_from, inz_drop]
    have hs : Small (ns.take i ++ ns.drop (i + 1)) := ⟨by simp; omega, fun z hz' => by
      rcases List.mem_append.mp hz' with h | h
      · exact hz.2 z (List.mem_of_mem_take h)
      · exact hz.2 z (List.mem_of_mem_drop h)⟩
    have hlen := hs.1
    have hpoly := rootsAt_len p (ns.take i ++ ns.drop (i + 1))
    refine s_seq (s_set (i := 4) (d := .tup (inz (rootsAt p (ns.take i ++ ns.drop (i + 1))))) nd rfl (.inl rfl) (lt_ rfl) (x_call c_roots_at hr (a_cons (x_of (pv 0) rfl) (a_cons (x_cat (by rw [e1, e2, inz_len, inz_len, sizeLine_eq, List.length_take, List.length_drop]; omega) (x_sl (x_of (pv 1) rfl) p_no (p_int (x_of (pv 3) rfl))) (x_sl (x_of (pv 1) rfl) (p_int (x_add (x_of (pv 3) rfl) x_int)) p_no)) a_nil)) ⟨rfl, p, ns.take i ++ ns.drop (i + 1), by rw [e1, e2, inz_app], ⟨by omega, hp2⟩, hs, rfl⟩) rfl) ?_
    refine s_one (s_weak (s_app (pv 2) rfl (lt_ rfl) (by simp; omega) (x_call (d := .tup (inz (baseAt p ns i))) c_scaled (hr.mono (by decide)) (a_cons (x_of (pv 0) rfl) (a_cons (x_call (d := .int ((valueAt p (rootsAt p (ns.take i ++ ns.drop (i + 1))) (ns.getD i 0)) ^ (p - 2).toNat % p)) c_inverse (hr.mono (by decide)) (a_cons (x_of (pv 0) rfl) (a_cons (x_call (d := .int (valueAt p (rootsAt p (ns.take i ++ ns.drop (i + 1))) (ns.getD i 0))) c_value_at (hr.mono (by decide)) (a_cons (x_of (pv 0) rfl) (a_cons (x_of (pv 4) rfl) (a_cons (x_ixt (x_of (pv 1) rfl) (x_of (pv 3) rfl) (inz_at hi)) a_nil))) ⟨rfl, p, _, _, rfl, ⟨by omega, hp2⟩, rfl⟩) a_nil)) ⟨rfl, p, _, rfl, ⟨hp1, hp2⟩, rfl⟩) (a_cons (x_of (pv 4) rfl) a_nil))) ⟨rfl, p, _, _, rfl, ⟨by omega, hp2⟩, ?_, by omega, rfl⟩) rfl) ?_)
    · have h1 := Int.emod_nonneg ((valueAt p (rootsAt p (ns.take i ++ ns.drop (i + 1))) (ns.getD i 0)) ^ (p - 2).toNat) (show p ≠ 0 by omega)
      have h2 := Int.emod_lt_of_pos ((valueAt p (rootsAt p (ns.take i ++ ns.drop (i + 1))) (ns.getD i 0)) ^ (p - 2).toNat) (show 0 < p by omega)
      exact ⟨by omega, by omega⟩
    rintro _ rfl
    refine ⟨.dat (.int ((i : Nat) : Int)), .dat (.tup (inz (rootsAt p (ns.take i ++ ns.drop (i + 1))))), ?_⟩
    rw [List.range_succ, List.map_append, List.map_append]
    rfl
  · rintro _ ⟨u, v, rfl⟩; rw [inz_len]; exact ⟨u, v, rfl⟩
  · rintro _ ⟨u, v, rfl⟩
    exact s_one (s_retO (pv 2) rfl)
abbrev s_weights : Stmt := top 15
abbrev N_weights : List Str := ["p", "points", "x", "poly"]
theorem sc_weights : FnScope N_weights ["p", "points", "x"] (defScope s_weights) := ⟨rfl, rfl, rfl, by decide +kernel, rfl, by decide +kernel, by decide +kernel⟩
theorem ok_weights (B : Bt mg) (c_bases : Glo P w K mg base "bases" 4 ["p", "points"] (spN K C 2 S_bases)) (c_value_at : Glo P w K mg base "value_at" 1 ["p", "poly", "x"] (spD K C 3 S_value_at)) (F : Fun K "weights" "weights" s_weights g fd) :
    FnOk P w K mg base CX0 5 g fd ["p", "points", "x"] (spD K C 3 S_weights) := by
  refine fn_D F sc_weights rfl fun cdv A outer s H E G ds d hr hS => ?_
  obtain ⟨p, ns, x, rfl, hp, hz, rfl⟩ := hS
  have nd := sc_weights.nd
  have e : D.tup (inz (weightsM p ns x)) = .tup ((basesM p ns).map fun b => .int (valueAt p b x)) := by unfold weightsM inz; rw [List.map_map]; rfl
  rw [e]
  exact s_one (s_ret (x_tuple rfl B.tuple (o_new (x_lca (l := basesM p ns) (h := fun b => .tup (inz b)) (fun b => .int (valueAt p b x)) (j := 3) rfl nd (lt_ rfl) (by have := hz.1; unfold basesM; simp; omega) (i_s (i_new (x_callN c_bases hr (a_cons (x_of (pv 0) rfl) (a_cons (x_of (pv 1) rfl) a_nil)) ⟨rfl, p, ns, rfl, hp, hz, rfl⟩))) (blkOk_by (N := N_weights) (sc := defScope s_weights) (by decide +kernel)) (fun _ _ _ _ _ => pg_name (i := 3) nd rfl (.inl rfl))
      (fun a ha _ _ _ _ _ => (x_call c_value_at (hr.mono (by decide)) (a_cons (x_of (pv 0) rfl) (a_cons (x_of (pv 3) rfl) (a_cons (x_of (pv 2) rfl) a_nil))) ⟨rfl, p, a, x, rfl, ⟨by omega, hp.2⟩, rfl⟩))))))
abbrev s_parties : Stmt := top 18
theorem sc_parties : FnScope ["setting"] ["setting"] (defScope s_parties) := ⟨rfl, rfl, rfl, by decide +kernel, rfl, by decide +kernel, by decide +kernel⟩
theorem ok_parties (B : Bt mg) (F : Fun K "parties" "parties" s_parties g fd) : FnOk P w K mg base CX0 1 g fd ["setting"] (spD K C 1 S_parties) := by
  refine fn_D F sc_parties rfl fun cdv A outer s H E G ds d hr hS => ?_
  obtain ⟨se, rfl, ok, rfl⟩ := hS
  have h2 := ok.n2
  have e : D.tup (inz (pts se.n)) = .tup (rngD 1 ((se.n : Int) + 1 - 1).toNat) := by
    rw [show ((se.n : Int) + 1 - 1).toNat = se.n by omega, rng_pts]
  rw [e]
  exact s_one (s_ret (x_tupRg (RgOk.of_le (by decide) (by omega) (by decide) (by omega)) rfl rfl B.tuple (g_rng2 rfl B.range x_int (x_add (x_ixt (x_of (pv 0) rfl) x_int rfl) x_int))))
abbrev s_shares_of : Stmt := top 19
abbrev N_shares_of : List Str := ["setting", "poly", "party"]
theorem sc_shares_of : FnScope N_shares_of ["setting", "poly"] (defScope s_shares_of) := ⟨rfl, rfl, rfl, by decide +kernel, rfl, by decide +kernel, by decide +kernel⟩
theorem ok_shares_of (B : Bt mg) (c_parties : Glo P w K mg base "parties" 1 ["setting"] (spD K C 1 S_parties)) (c_value_at : Glo P w K mg base "value_at" 1 ["p", "poly", "x"] (spD K C 3 S_value_at)) (F : Fun K "shares_of" "shares_of" s_shares_of g fd) :
    FnOk P w K mg base CX0 2 g fd ["setting", "poly"] (spD K C 2 S_shares_of) := by
  refine fn_D F sc_shares_of rfl fun cdv A outer s H E G ds d hr hS => ?_
  obtain ⟨se, poly, rfl, ok, rfl⟩ := hS
  have nd := sc_shares_of.nd
  have h2 := ok.n2; have h3 := ok.p2; have h4 := ok.p3
  have e : D.tup (inz (sharesM se poly)) = .tup ((pts se.n).map fun x => .int (valueAt se.p poly x)) := by unfold sharesM inz; rw [List.map_map]; rfl
  rw [e]
  exact s_one (s_ret (x_tuple rfl B.tuple (o_new (x_lca (l := pts se.n) (h := D.int) (fun x => .int (valueAt se.p poly x)) (j := 2) rfl nd (lt_ rfl) (by rw [pts_len]; omega) (i_s (i_tup (x_call c_parties hr (a_cons (x_of (pv 0) rfl) a_nil) ⟨rfl, se, rfl, ok, rfl⟩))) (blkOk_by (N := N_shares_of) (sc := defScope s_shares_of) (by decide +kernel)) (fun _ _ _ _ _ => pg_name (i := 2) nd rfl (.inl rfl))
      (fun a ha _ _ _ _ _ => (x_call c_value_at hr (a_cons (x_ixt (x_of (pv 0) rfl) x_int rfl) (a_cons (x_of (pv 1) rfl) (a_cons (x_of (pv 2) rfl) a_nil))) ⟨rfl, se.p, poly, a, rfl, ⟨by omega, by omega⟩, rfl⟩))))))
abbrev s_shares : Stmt := top 20
theorem sc_shares : FnScope ["setting", "s", "coins"] ["setting", "s", "coins"] (defScope s_shares) := ⟨rfl, rfl, rfl, by decide +kernel, rfl, by decide +kernel, by decide +kernel⟩
theorem ok_shares (B : Bt mg) (c_shares_of : Glo P w K mg base "shares_of" 2 ["setting", "poly"] (spD K C 2 S_shares_of)) (F : Fun K "shares" "shares" s_shares g fd) : FnOk P w K mg base CX0 3 g fd ["setting", "s", "coins"] (spD K C 3 S_shares) := by
  refine fn_D F sc_shares rfl fun cdv A outer s H E G ds d hr hS => ?_
  obtain ⟨se, z, coins, rfl, ok, hz, rfl⟩ := hS
  exact s_one (s_ret (x_call c_shares_of hr (a_cons (x_of (pv 0) rfl) (a_cons (x_cat (by rw [inz_len, sizeLine_eq]; show 1 + _ ≤ _; omega) (x_tup (a_cons (x_of (pv 1) rfl) a_nil)) (x_of (pv 2) rfl)) a_nil)) ⟨rfl, se, z :: coins, rfl, ok, rfl⟩))
end
end Un
set_option maxHeartbeats 4000000
/-! Un: deep equality, deep in, sums of tuples, chains, lists joined, texts split and joined, isinstance. -/
namespace Un
open PySem L2
mutual
def pyD : D → PyData
  | .non => .none
  | .bl b => .bool b
  | .int i => .int i
  | .str s => .str s
  | .tup ds => .tuple (pysD ds)
  | .lst ds => .list (pysD ds)
  | .scr _ => .none
  | .dic _ => .none
  | .obj _ => .none
def pysD : List D → List PyData
  | [] => []
  | d :: ds => pyD d :: pysD ds
end
mutual
def pureD : D → Bool
  | .non => true
  | .bl _ => true
  | .int _ => true
  | .str _ => true
  | .tup ds => pureDs ds
  | .lst ds => pureDs ds
  | .scr _ => false
  | .dic _ => false
  | .obj _ => false
def pureDs : List D → Bool
  | [] => true
  | d :: ds => pureD d && pureDs ds
end
section
variable {K : PySem.W.Frag} {C : Addr} {G : Hp}
mutual
theorem dat_dp : ∀ {d : D} {v : V}, pureD d = true → Dat K C G d v → Dp K G v (pyD d)
  | .non, _, _, h => by rw [h.non_inv]; simp only [pyD]; exact .non
  | .bl b, _, _, h => by rw [h.bl_inv]; simp only [pyD]; exact .bl b
  | .int i, _, _, h => by rw [h.int_inv]; simp only [pyD]; exact .int i
  | .str s, _, _, h => by rw [h.str_inv]; simp only [pyD]; exact .str s
  | .tup ds, _, p, h => by
    obtain ⟨a, xs, rfl, h1, h2⟩ := h.tup_inv
    simp only [pyD]
    exact .tup h1 (dats_dp (by simpa only [pureD] using p) h2)
  | .lst ds, _, p, h => by
    obtain ⟨a, xs, rfl, h1, h2⟩ := h.lst_inv
    simp only [pyD]
    exact .lst (SqL.of h1) (dats_dp (by simpa only [pureD] using p) h2)
  | .scr _, _, p, _ => by simp only [pureD] at p; cases p
  | .dic _, _, p, _ => by simp only [pureD] at p; cases p
  | .obj _, _, p, _ => by simp only [pureD] at p; cases p
theorem dats_dp : ∀ {ds : List D} {xs : List V}, pureDs ds = true → Dats K C G ds xs → DpAll K G xs (pysD ds)
  | [], _, _, h => by rw [h.inv0]; simp only [pysD]; exact .nil
  | d :: ds, _, p, h => by
    obtain ⟨x, r, rfl, h1, h2⟩ := h.inv
    simp only [pureDs, Bool.and_eq_true] at p
    simp only [pysD]
    exact .cons (dat_dp p.1 h1) (dats_dp p.2 h2)
end
end
/-- data that == reads -/
def eqOk (d : D) : Prop := pureD d = true ∧ SeqAt.shaped (pyD d) = true
section
variable {X : Cx} {f : Fm} {δ : List Sl}
theorem rd_eqD {K : PySem.W.Frag} {d e : D} (h1 : eqOk d) (h2 : eqOk e) : RD K f (rEqD K) d e (.bl (PyData.eqv (pyD d) (pyD e))) := fun σ δ G H x y Q rp z1 z2 q =>
  ⟨_, _, dat_dp h1.1 (z1.mono rp.gh), dat_dp h2.1 (z2.mono rp.gh), h1.2, h2.2, q _ G H (Step.refl rp.gh) dat_bl⟩
theorem t_eqD {a b : Expr} {pos : Pos} {d e : D} (hu : X.A.units + 64 < cLine) (ha : PE X a (tD X.K f δ d)) (hb : PE X b (tD X.K f δ e)) (h1 : eqOk d) (h2 : eqOk e) : PT X (.Compare a [.Eq] [b] pos) (tBo X.K f δ (PyData.eqv (pyD d) (pyD e))) :=
  t_cmp (op_eqD hu) (rd_eqD h1 h2) ha hb (nomark _)
theorem min_le_r (a b : Nat) : min a b ≤ b := Nat.min_le_right a b
/-- x in t, x not in t: t a tuple of data at any depth -/
def rInT (K : PySem.W.Frag) : R2 := fun x y H Q => ∃ d ds, Dp K H x d ∧ Dp K H y (.tuple ds) ∧ SeqAt.shaped d = true ∧ PyData.canLayAll0 ds = true ∧ Q (.bl (ds.any fun z => PyData.eqv z d)) H
def rNinT (K : PySem.W.Frag) : R2 := fun x y H Q => ∃ d ds, Dp K H x d ∧ Dp K H y (.tuple ds) ∧ SeqAt.shaped d = true ∧ PyData.canLayAll0 ds = true ∧ Q (.bl (!ds.any fun z => PyData.eqv z d)) H
theorem op_inT (hu : X.A.units + 65 < cLine) : OpR X (compareOp .In) (rInT X.K) := by
  intro pins s σ H x y v u Q I rx ry h
  obtain ⟨d, ds, hd, he, sd, se, q⟩ := h
  obtain ⟨as, r1⟩ := Dp.reads I _ _ _ hd rx
  obtain ⟨bs, r2⟩ := Dp.reads I _ _ _ he ry
  have l1 := SeqAt.depth_of_shaped sd
  have l2 := min_le_r (PyData.depthAll ds) d.depth
  exact SeqAt.in_tuple_reads r2 r1 se (SeqAt.canLay_of_shaped sd) (by omega) ⟨.bl _, H, I, rfl, q⟩
theorem op_ninT (hu : X.A.units + 65 < cLine) : OpR X (compareOp .NotIn) (rNinT X.K) := by
  intro pins s σ H x y v u Q I rx ry h
  obtain ⟨d, ds, hd, he, sd, se, q⟩ := h
  obtain ⟨as, r1⟩ := Dp.reads I _ _ _ hd rx
  obtain ⟨bs, r2⟩ := Dp.reads I _ _ _ he ry
  have l1 := SeqAt.depth_of_shaped sd
  have l2 := min_le_r (PyData.depthAll ds) d.depth
  exact SeqAt.notIn_tuple_reads r2 r1 se (SeqAt.canLay_of_shaped sd) (by omega) ⟨.bl _, H, I, rfl, q⟩
theorem t_inT {a b : Expr} {pos : Pos} {d : D} {ds : List D} (hu : X.A.units + 65 < cLine) (ha : PE X a (tD X.K f δ d)) (hb : PE X b (tD X.K f δ (.tup ds))) (h1 : eqOk d) (h2 : pureDs ds = true) (h3 : PyData.canLayAll0 (pysD ds) = true) (hm : behindInMarks .In b = false := by first | rfl | decide +kernel) :
    PT X (.Compare a [.In] [b] pos) (tBo X.K f δ ((pysD ds).any fun z => PyData.eqv z (pyD d))) :=
  t_cmp (op_inT hu) (fun σ δ G H x y Q rp z1 z2 q => ⟨_, _, dat_dp h1.1 (z1.mono rp.gh), by have := dat_dp (d := .tup ds) (by simpa only [pureD] using h2) (z2.mono rp.gh); simpa only [pyD] using this, h1.2, h3, q _ G H (Step.refl rp.gh) dat_bl⟩) ha hb hm
theorem t_ninT {a b : Expr} {pos : Pos} {d : D} {ds : List D} (hu : X.A.units + 65 < cLine) (ha : PE X a (tD X.K f δ d)) (hb : PE X b (tD X.K f δ (.tup ds))) (h1 : eqOk d) (h2 : pureDs ds = true) (h3 : PyData.canLayAll0 (pysD ds) = true) (hm : behindInMarks .NotIn b = false := by first | rfl | decide +kernel) :
    PT X (.Compare a [.NotIn] [b] pos) (tBo X.K f δ (!(pysD ds).any fun z => PyData.eqv z (pyD d))) :=
  t_cmp (op_ninT hu) (fun σ δ G H x y Q rp z1 z2 q => ⟨_, _, dat_dp h1.1 (z1.mono rp.gh), by have := dat_dp (d := .tup ds) (by simpa only [pureD] using h2) (z2.mono rp.gh); simpa only [pyD] using this, h1.2, h3, q _ G H (Step.refl rp.gh) dat_bl⟩) ha hb hm
/-- sum(t), t a tuple of ints -/
def rSumT (K : PySem.W.Frag) : List V → Hp → VK → Prop := fun vs H Q => ∃ (a : Addr) (ns : List Int), vs = [V.ref a] ∧ SqT K H a (ns.map V.int) ∧ Q (.int ns.sum) H
theorem cr_sumT (hc : X.calm = true) : CallR X (.builtin "sum") (rSumT X.K) := by
  intro pins s σ H vs us Q I r h
  obtain ⟨a, ns, rfl, hs, q⟩ := h
  obtain ⟨its, rv, ht, _⟩ := I.tuple hs
  have hi := rv.ints
  rw [Vals.ref1 r]
  obtain ⟨xs, hx⟩ := hi.allInts.items
  have hn : PySem.numsOf (PySem.intItems xs).toList = ns := by rw [← hx]; exact hi.numsOf
  rw [PySem.nums_intItems] at hn
  rw [hx] at ht
  obtain ⟨o, h1, h2, n, h3⟩ := ht
  refine PySem.W.ktm_sumG (I.ok.hd hc) ⟨o, h1, h2, n, h3⟩ fun h' tk t' hk => ⟨.int _, H, I.kept hk, ⟨_, rfl⟩, ?_⟩
  rw [PySem.preSum_eq, List.take_of_length_le (by simp), hn]
  exact q
theorem x_sumT {p pos : Pos} {e : Expr} {ns : List Int} (hc : X.calm = true) (hg : Gl X "sum") (hm : X.mg "sum" = none) (ha : PE X e (tD X.K f δ (.tup (inz ns)))) (he : starEach (e :: []) X.env = (false, eval e X.env) :: starEach [] X.env := by rfl) (hpl : (backTo pos (starEach [] X.env)).any (·.1) = false := by rfl) :
    PE X (.Call (.Name "sum" p) [e] [] pos) (tD X.K f δ (.int ns.sum)) :=
  pe_imp (pe_callB (cr_sumT hc) hg hm (by decide +kernel) (pa_cons ha pa_nil he) (by decide) (by decide) he hpl) fun σ H Q ⟨G, rp, q⟩ => ⟨G, rp, fun v d G' H' t e z => by
    subst e
    obtain ⟨a, xs, rfl, h1, h2⟩ := z.tup_inv
    exact ⟨a, ns, rfl, by rw [← h2.inz]; exact t.gh.sqT h1, q _ _ G' H' t rfl dat_int⟩⟩
/-- a op b op' c, ints -/
theorem t_chain {a b c : Expr} {op op' : CmpOp} {pos : Pos} {r r' : R2} {d1 d2 d3 : D} {k l : Bool} (ho : OpR X (compareOp op) r) (ho' : OpR X (compareOp op') r') (hr : RD X.K f r d1 d2 (.bl k)) (hr' : RD X.K f r' d2 d3 (.bl l))
    (ha : PE X a (tD X.K f δ d1)) (hb : PE X b (tD X.K f δ d2)) (hc : PE X c (tD X.K f δ d3)) (hm : lastMarks [op, op'] [b, c] = false := by with_unfolding_all rfl) : PT X (.Compare a [op, op'] [b, c] pos) (tBo X.K f δ (k && l)) :=
  pt_imp (L2.pt_chain ho ho' ha hb hc hm) fun σ H Q ⟨G, rp, q⟩ => ⟨G, rp, fun v e1' G1 H1 t1 e1 z1 => ⟨G1, rp.step t1, fun u e2' G2 H2 t2 e2 z2 => by
    subst e1; subst e2
    refine hr σ δ G2 H2 v u _ ((rp.step t1).step t2) (z1.mono t2.gg) z2 fun w G3 H3 t3 z3 => ⟨k, z3.bl_inv, ?_⟩
    have t123 := (t1.trans t2).trans t3
    cases k with
    | false => exact iteF ⟨false, rfl, q G3 H3 t123⟩
    | true =>
      refine iteT ⟨G3, rp.step t123, fun x e4' G4 H4 t4 e4 z4 => ?_⟩
      subst e4
      refine hr' σ δ G4 H4 u x _ (rp.step (t123.trans t4)) (z2.mono (t3.gg.trans t4.gg)) z4 fun y G5 H5 t5 z5 => ⟨l, z5.bl_inv, ?_⟩
      exact q G5 H5 ((t123.trans t4).trans t5)⟩⟩
theorem x_neg {a : Expr} {pos : Pos} {i : Int} (ha : PE X a (tD X.K f δ (.int i))) : PE X (.UnaryOp .USub a pos) (tD X.K f δ (.int (-i))) := pe_imp (pe_un un_neg ha) fun σ H Q ⟨G, rp, q⟩ => ⟨G, rp, fun v d G' H' t e z => by
  subst e
  exact ⟨i, z.int_inv, q _ _ G' H' t rfl dat_int⟩⟩
/-- an operand that is a tracked list -/
def tSt (K : PySem.W.Frag) (f : Fm) (δ : List Sl) (ds : List D) : TE := fun σ H Q => ∃ G, Rep K f σ δ G H ∧ ∀ a xs G' H', Step f G H G' H' → (∀ G2 H2, Step f G' H' G2 H2 → H2 a = some (.lst xs)) → Dats K f.C G' ds xs → Q (.ref a) H'
theorem q_lst {e : Expr} {ds : List D} (h : PE X e (tD X.K f δ (.lst ds))) : PE X e (tSt X.K f δ ds) := pe_imp h fun σ H Q ⟨G, rp, q⟩ => ⟨G, rp, fun v d G' H' t e z => by
  subst e
  obtain ⟨a, xs, rfl, h1, r1⟩ := z.lst_inv
  exact q a xs G' H' t (fun G2 H2 t2 => (t2.gg.trans t2.gh) _ _ h1) r1⟩
theorem q_new {e : Expr} {ds : List D} (h : PE X e (tN X.K f δ ds)) : PE X e (tSt X.K f δ ds) := q_lst (x_frz h)
theorem q_own {e : Expr} {i : Nat} {ds : List D} (h : PE X e (tVar i)) (hd : dAt δ i = .own ds) : PE X e (tSt X.K f δ ds) := pe_imp h fun σ H Q ⟨G, rp, q⟩ => by
  have s := rp.slot i
  rw [hd] at s
  obtain ⟨l, xs, e1, e2, e3, e4, e5, e6⟩ := s
  exact ⟨.ref l, sAt_some e1, q l xs G H (Step.refl rp.gh) (fun G2 H2 t2 => t2.rh _ _ e6 e2) e3⟩
theorem x_catl {a b : Expr} {pos : Pos} {ds es : List D} (hz : ds.length + es.length ≤ 100000) (ha : PE X a (tSt X.K f δ ds)) (hb : PE X b (tSt X.K f δ es)) : PE X (.BinOp a .Add b pos) (tN X.K f δ (ds ++ es)) :=
  pe_imp (pe_op op_cat ha hb) fun σ H Q ⟨G, rp, q⟩ => ⟨G, rp, fun a xs G1 H1 t1 s1 z1 => ⟨G1, rp.step t1, fun b ys G2 H2 t2 s2 z2 => by
    refine ⟨a, b, xs, ys, rfl, rfl, s1 G2 H2 t2, s2 G2 H2 (Step.refl t2.gh), by rw [← z1.len, ← z2.len]; exact Nat.le_trans hz (by decide), fun p hp => ?_⟩
    have rp2 := (rp.step t1).step t2
    have t3 := rp2.stepNew (o := .lst (xs ++ ys)) hp
    have b := rp.back (t1.trans t2) hp
    exact q _ _ _ _ _ ((t1.trans t2).trans t3) b.1 (rp2.gh.none hp) b.2 upd_same rfl ((z1.mono t2.gg).app z2)⟩⟩
theorem x_rep {a b : Expr} {pos : Pos} {ds : List D} {k : Nat} (hz : ds.length * k ≤ 100000) (hk : k ≤ 100000) (ha : PE X a (tSt X.K f δ ds)) (hb : PE X b (tD X.K f δ (.int (k : Int)))) (hd : ∀ (K : PySem.W.Frag) (C : Addr) (G : Hp) (xs : List V), Dats K C G ds xs → Dats K C G (List.replicate k ds).flatten (List.replicate k xs).flatten) :
    PE X (.BinOp a .Mult b pos) (tN X.K f δ (List.replicate k ds).flatten) :=
  pe_imp (pe_op op_rep ha hb) fun σ H Q ⟨G, rp, q⟩ => ⟨G, rp, fun a xs G1 H1 t1 s1 z1 => ⟨G1, rp.step t1, fun v e G2 H2 t2 e2 z2 => by
    subst e2
    rw [z2.int_inv]
    refine ⟨a, (k : Int), xs, rfl, rfl, s1 G2 H2 t2, by omega, by omega, by rw [← z1.len, Int.toNat_natCast]; exact Nat.le_trans hz (by decide), fun p hp => ?_⟩
    have rp2 := (rp.step t1).step t2
    rw [Int.toNat_natCast]
    have t3 := rp2.stepNew (o := .lst (List.replicate k xs).flatten) hp
    have b := rp.back (t1.trans t2) hp
    exact q _ _ _ _ _ ((t1.trans t2).trans t3) b.1 (rp2.gh.none hp) b.2 upd_same rfl (hd _ _ _ _ (z1.mono t2.gg))⟩⟩
theorem dats_rep {K : PySem.W.Frag} {C : Addr} {G : Hp} {ds : List D} {xs : List V} (h : Dats K C G ds xs) : ∀ k : Nat, Dats K C G (List.replicate k ds).flatten (List.replicate k xs).flatten
  | 0 => dats_nil
  | k + 1 => by rw [List.replicate_succ, List.replicate_succ, List.flatten_cons, List.flatten_cons]; exact h.app (dats_rep h k)
/-! ### texts -/
theorem x_split {o e : Expr} {apos pos : Pos} {a b : Str} (hb : (b.length == 0) = false) (hz : a.length + 2 ≤ 16777216) (ho : PE X o (tD X.K f δ (.str a))) (he : PE X e (tD X.K f δ (.str b))) (hs : starEach [e] X.env = [(false, eval e X.env)] := by rfl)
    (hbase : attributeBase o "split" X.env (eval o X.env) = eval o X.env := by rfl) (hline : (apos.endLine == pos.line) = true := by rfl) : PE X (.Call (.Attribute o "split" apos) [e] [] pos) (tN X.K f δ ((Txt.split a b).map D.str)) :=
  pe_imp (pe_split ho he hs hbase hline) fun σ H Q ⟨G, rp, q⟩ => ⟨G, rp, fun v d G1 H1 t1 e1 z1 => by
    subst e1
    refine ⟨⟨a, z1.str_inv⟩, G1, rp.step t1, fun u d2 G2 H2 t2 e2 z2 => ?_⟩
    subst e2
    refine ⟨a, b, z1.str_inv, by rw [z2.str_inv], hb, hz, fun p hp => ?_⟩
    have rp2 := (rp.step t1).step t2
    have t3 := rp2.stepNew (o := .lst ((Txt.split a b).map V.str)) hp
    have b := rp.back (t1.trans t2) hp
    exact q _ _ _ _ _ ((t1.trans t2).trans t3) b.1 (rp2.gh.none hp) b.2 upd_same rfl (dats_stz _)⟩
theorem x_join {o e : Expr} {apos pos : Pos} {a : Str} {ys : List Str} (hz : (ys.map (·.length)).sum + ys.length * a.length ≤ 16777216) (ho : PE X o (tD X.K f δ (.str a))) (he : PE X e (tS X.K f δ (ys.map D.str))) (hs : starEach [e] X.env = [(false, eval e X.env)] := by rfl)
    (hbase : attributeBase o "join" X.env (eval o X.env) = eval o X.env := by rfl) (hline : (apos.endLine == pos.line) = true := by rfl) : PE X (.Call (.Attribute o "join" apos) [e] [] pos) (tD X.K f δ (.str (Txt.join a ys))) :=
  pe_imp (pe_join ho he hs hbase hline) fun σ H Q ⟨G, rp, q⟩ => ⟨G, rp, fun v d G1 H1 t1 e1 z1 => by
    subst e1
    refine ⟨⟨a, z1.str_inv⟩, G1, rp.step t1, fun b xs G2 H2 t2 s2 z2 => ?_⟩
    refine ⟨a, b, ys, z1.str_inv, rfl, ?_, hz, q _ _ G2 H2 (t1.trans t2) rfl dat_str⟩
    rw [← z2.stz]
    exact s2 G2 H2 (Step.refl t2.gh)⟩
/-- one sign in a text -/
theorem t_ninS {a b : Expr} {pos : Pos} {c : Nat} {z : Str} (ha : PE X a (tD X.K f δ (.str ⟨#[c]⟩))) (hb : PE X b (tD X.K f δ (.str z))) (hm : behindInMarks .NotIn b = false := by first | rfl | decide +kernel) : PT X (.Compare a [.NotIn] [b] pos) (tBo X.K f δ (!decide (c ∈ z.cps.toList))) :=
  t_cmp op_notIn_sign (fun σ δ G H x y Q rp z1 z2 q => ⟨c, z, z1.str_inv, z2.str_inv, q _ G H (Step.refl rp.gh) dat_bl⟩) ha hb hm
/-! ### isinstance -/
def tyD : D → Option String
  | .non => some "NoneType"
  | .bl _ => some "bool"
  | .int _ => some "int"
  | .str _ => some "str"
  | .tup _ => some "tuple"
  | _ => none
theorem ty_dat {K : PySem.W.Frag} {C : Addr} {G H : Hp} (sb : Sub G H) {d : D} {v : V} {n : String} (h : Dat K C G d v) (e : tyD d = some n) : TyX K H v (.type n) := by
  cases d with
  | non => cases e; rw [h.non_inv]; exact .base .non
  | bl b => cases e; rw [h.bl_inv]; exact .base (.bl b)
  | int b => cases e; rw [h.int_inv]; exact .base (.int b)
  | str b => cases e; rw [h.str_inv]; exact .base (.str b)
  | tup ds =>
    cases e
    obtain ⟨a, xs, rfl, h1, _⟩ := h.tup_inv
    rcases h1 with (h1 | ⟨o, h1⟩) | ⟨o, its, n, h1, h2, _⟩
    · exact .base (.tup (sb _ _ h1))
    · exact .fTuple (sb _ _ h1)
    · exact .kTuple h1 h2
  | lst ds => cases e
  | scr ds => cases e
  | dic ds => cases e
  | obj ds => cases e
theorem x_isi {p pos q2 : Pos} {e : Expr} {c : Str} {cn n : String} {d : D} {b : Bool} (hg : Gl X "isinstance") (hm : X.mg "isinstance" = none) (hgc : Gl X c) (hmc : X.mg c = none) (hvc : bootBuiltins c = some (.type cn)) (hn : c ≠ "__name__") (hdb : (c == ("__debug__" : Str)) = false)
    (ha : PE X e (tD X.K f δ d)) (ht : tyD d = some n) (hk : kitB n cn = some b) (he : starEach (e :: [.Name c q2]) X.env = (false, eval e X.env) :: starEach [.Name c q2] X.env := by rfl)
    (he2 : starEach (.Name c q2 :: []) X.env = (false, eval (.Name c q2) X.env) :: starEach [] X.env := by rfl) (hpl : (backTo pos (starEach [.Name c q2] X.env)).any (·.1) = false := by rfl) :
    PE X (.Call (.Name "isinstance" p) [e, .Name c q2] [] pos) (tD X.K f δ (.bl b)) :=
  pe_imp (pe_callB call_isi hg hm (by decide +kernel) (pa_cons ha (pa_cons (pe_bltn (v := .ty cn) hgc hmc hvc rfl hn hdb) pa_nil he2) he) (by decide) (by decide) he hpl) fun σ H Q ⟨G, rp, q⟩ => ⟨G, rp, fun v d' G' H' t e z => by
    subst e
    exact ⟨v, .ty cn, .type n, .type cn, b, rfl, .ty cn, ty_dat t.gh z ht, kit_ty hk, q _ _ G' H' t rfl dat_bl⟩⟩
end
end Un
set_option maxHeartbeats 4000000
namespace Un
open PySem L2
/-! rows of programs -/
inductive Row where
  | inp (j : Nat)
  | const (c : Int)
  | sum (a b : Nat)
  | less (a b : Nat)
  | prod (a b : Nat)
  | times (c : Int) (a : Nat)
  | out (a j : Nat)
  | next
  | kept (a : Nat)
  deriving DecidableEq
def Row.tag : Row → Fin 9
  | .inp _ => 0
  | .const _ => 1
  | .sum _ _ => 2
  | .less _ _ => 3
  | .prod _ _ => 4
  | .times _ _ => 5
  | .out _ _ => 6
  | .next => 7
  | .kept _ => 8
def kindS (t : Fin 9) : Str := match t with
  | 0 => "in"
  | 1 => "const"
  | 2 => "sum"
  | 3 => "less"
  | 4 => "product"
  | 5 => "times"
  | 6 => "out"
  | 7 => "next"
  | 8 => "kept"
def Row.args : Row → List D
  | .inp j => [.int (j : Int)]
  | .const c => [.int c]
  | .sum a b => [.int (a : Int), .int (b : Int)]
  | .less a b => [.int (a : Int), .int (b : Int)]
  | .prod a b => [.int (a : Int), .int (b : Int)]
  | .times c a => [.int c, .int (a : Int)]
  | .out a j => [.int (a : Int), .int (j : Int)]
  | .next => []
  | .kept a => [.int (a : Int)]
def Row.d (r : Row) : D := .tup (.str (kindS r.tag) :: r.args)
def progD (rows : List Row) : D := .tup [.str "program", .tup (rows.map Row.d)]
def Row.named : Row → List Nat
  | .sum a b => [a, b]
  | .less a b => [a, b]
  | .prod a b => [a, b]
  | .times _ a => [a]
  | .out a _ => [a]
  | .kept a => [a]
  | _ => []
def natz (ns : List Nat) : List D := ns.map fun (a : Nat) => D.int ((a : Nat) : Int)
theorem k_is0 : ∀ t : Fin 9, decide (kindS t = ("in" : Str)) = decide (t = 0) := by decide +kernel
theorem k_is1 : ∀ t : Fin 9, decide (kindS t = ("const" : Str)) = decide (t = 1) := by decide +kernel
theorem k_is2 : ∀ t : Fin 9, decide (kindS t = ("sum" : Str)) = decide (t = 2) := by decide +kernel
theorem k_is4 : ∀ t : Fin 9, decide (kindS t = ("product" : Str)) = decide (t = 4) := by decide +kernel
theorem k_is5 : ∀ t : Fin 9, decide (kindS t = ("times" : Str)) = decide (t = 5) := by decide +kernel
theorem k_is6 : ∀ t : Fin 9, decide (kindS t = ("out" : Str)) = decide (t = 6) := by decide +kernel
theorem k_is7 : ∀ t : Fin 9, decide (kindS t = ("next" : Str)) = decide (t = 7) := by decide +kernel
theorem k_is8 : ∀ t : Fin 9, decide (kindS t = ("kept" : Str)) = decide (t = 8) := by decide +kernel
theorem k_in234 : ∀ t : Fin 9, inD (.str (kindS t)) [.str "sum", .str "less", .str "product"] = decide (t = 2 ∨ t = 3 ∨ t = 4) := by decide +kernel
theorem k_in23 : ∀ t : Fin 9, inD (.str (kindS t)) [.str "sum", .str "less"] = decide (t = 2 ∨ t = 3) := by decide +kernel
theorem k_in68 : ∀ t : Fin 9, inD (.str (kindS t)) [.str "out", .str "kept"] = decide (t = 6 ∨ t = 8) := by decide +kernel
theorem k_in48 : ∀ t : Fin 9, inD (.str (kindS t)) [.str "product", .str "kept"] = decide (t = 4 ∨ t = 8) := by decide +kernel
theorem k_in67 : ∀ t : Fin 9, inD (.str (kindS t)) [.str "out", .str "next"] = decide (t = 6 ∨ t = 7) := by decide +kernel
/-! specs -/
def S_named (ds : List D) (d : D) : Prop := ∃ r : Row, ds = [r.d] ∧ d = .tup (natz r.named)
def epochM (rows : List Row) (k : Nat) : Nat := ((rows.take (k + 1)).filter fun r => decide (r.tag = 7)).length
def S_epoch_of (ds : List D) (d : D) : Prop := ∃ (rows : List Row) (k : Nat), ds = [progD rows, .int (k : Int)] ∧ rows.length ≤ 1000 ∧ d = .int (epochM rows k : Nat)
def sendsM (r : Row) (i j : Nat) : Bool := if i = j then false else match r with
  | .inp m => decide (m = i)
  | .out _ m => decide (m = j)
  | .prod _ _ => true
  | .kept _ => true
  | _ => false
def S_sends (ds : List D) (d : D) : Prop := ∃ (s : Se) (rows : List Row) (k i j : Nat) (r : Row), ds = [s.d, progD rows, .int (k : Int), .int (i : Int), .int (j : Int)] ∧ rows[k]? = some r ∧ d = .bl (sendsM r i j)
section
variable {P : Program} {w : World} {K : PySem.W.Frag} {mg : Str → Option Value} {base : Heap} {C : Addr} {g : Addr} {fd : FuncData}
theorem at0 (a : D) (ds : List D) : atI (a :: ds) 0 = some a := atI_nat (j := 0) rfl
theorem cut1 (a : D) (ds : List D) : cutD (a :: ds) (some 1) none = ds := by
  have := cutD_from (a :: ds) 1
  exact this
theorem cut2 (a b : D) (ds : List D) : cutD (a :: b :: ds) (some 2) none = ds := by
  have := cutD_from (a :: b :: ds) 2
  exact this
theorem cut12 (a : D) (ds : List D) : cutD (a :: ds) (some 1) (some 2) = ds.take 1 := by
  have := cutD_mid (a :: ds) 1 2
  exact this
abbrev s_named : Stmt := top 23
theorem sc_named : FnScope ["row", "kind"] ["row"] (defScope s_named) := ⟨rfl, rfl, rfl, by decide +kernel, rfl, by decide +kernel, by decide +kernel⟩
theorem ok_named (F : Fun K "named" "named" s_named g fd) : FnOk P w K mg base CX0 1 g fd ["row"] (spD K C 1 S_named) := by
  refine fn_D F sc_named rfl fun cdv A outer s H E G ds d hr hS => ?_
  obtain ⟨r, rfl, rfl⟩ := hS
  have nd := sc_named.nd
  refine s_seq (s_set (i := 1) nd rfl (.inl rfl) (lt_ rfl) (x_ixt (x_of (pv 0) rfl) x_int (at0 _ _)) rfl) ?_
  refine ss_ifl (t_is (t_in (x_of (pv 1) rfl) (o_tup (x_tup (a_cons x_str (a_cons x_str (a_cons x_str a_nil)))))) (k_in234 _)) (fun hc => ?_) (fun h1 => ?_)
  · refine s_one (s_ret (x_eq (x_sl (x_of (pv 0) rfl) (p_int x_int) p_no) ?_))
    rw [cut1]
    cases r <;> first | rfl | (exact absurd hc (by simp [Row.tag]))
  refine ss_ifl (t_is (t_cmp op_eq rd_eqS (x_of (pv 1) rfl) x_str (nomark _)) (k_is5 _)) (fun hc => ?_) (fun h2 => ?_)
  · refine s_one (s_ret (x_eq (x_sl (x_of (pv 0) rfl) (p_int x_int) p_no) ?_))
    cases r <;> first | exact congrArg D.tup (cut2 _ _ _) | (exact absurd hc (by simp [Row.tag]))
  refine ss_ifl (t_is (t_in (x_of (pv 1) rfl) (o_tup (x_tup (a_cons x_str (a_cons x_str a_nil))))) (k_in68 _)) (fun hc => ?_) (fun h3 => ?_)
  · refine s_one (s_ret (x_eq (x_sl (x_of (pv 0) rfl) (p_int x_int) (p_int x_int)) ?_))
    rw [cut12]
    cases r <;> first | rfl | (exact absurd hc (by simp [Row.tag]))
  refine s_one (s_ret (x_eq (x_tup a_nil) ?_))
  cases r <;> first | rfl | (simp [Row.tag] at h1; done) | (simp [Row.tag] at h2; done) | (simp [Row.tag] at h3; done)
abbrev s_epoch_of : Stmt := top 24
abbrev N_epoch_of : List Str := ["program", "k", "row"]
theorem sc_epoch_of : FnScope N_epoch_of ["program", "k"] (defScope s_epoch_of) := ⟨rfl, rfl, rfl, by decide +kernel, rfl, by decide +kernel, by decide +kernel⟩
theorem ok_epoch_of (B : Bt mg) (F : Fun K "epoch_of" "epoch_of" s_epoch_of g fd) : FnOk P w K mg base CX0 1 g fd ["program", "k"] (spD K C 2 S_epoch_of) := by
  refine fn_D F sc_epoch_of rfl fun cdv A outer s H E G ds d hr hS => ?_
  obtain ⟨rows, k, rfl, hz, rfl⟩ := hS
  have nd := sc_epoch_of.nd
  have e0 : cutD (rows.map Row.d) none (some ((k : Int) + 1)) = (rows.take (k + 1)).map Row.d := by
    rw [show ((k : Nat) : Int) + 1 = ((k + 1 : Nat) : Int) by omega, cutD_to, List.map_take]
  refine s_one (s_ret (x_eq (x_len rfl B.len (o_l (o_new (x_lcm (l := rows.take (k + 1)) (h := Row.d) (fun r => decide (r.tag = 7)) Row.d (j := 2) rfl nd (lt_ rfl) (by rw [List.length_take]; omega) (i_s (i_tup (x_eq (x_sl (x_ixt (x_of (pv 0) rfl) x_int rfl) p_no (p_int (x_add (x_of (pv 1) rfl) x_int))) (congrArg D.tup e0)))) (blkOk_by (N := N_epoch_of) (sc := defScope s_epoch_of) (by decide +kernel)) (fun _ _ _ _ _ => pg_name (i := 2) nd rfl (.inl rfl))
      (fun a ha _ _ _ _ _ => ts_one (t_is (t_cmp op_eq rd_eqS (x_ixt (x_of (pv 2) rfl) x_int (at0 _ _)) x_str (nomark _)) (k_is7 _)))
      (fun a ha hb _ _ _ _ _ => (x_of (pv 2) rfl)))))) ?_))
  rw [List.length_map]; rfl
abbrev s_sends : Stmt := top 26
theorem sc_sends : FnScope ["setting", "program", "k", "i", "j", "row"] ["setting", "program", "k", "i", "j"] (defScope s_sends) := ⟨rfl, rfl, rfl, by decide +kernel, rfl, by decide +kernel, by decide +kernel⟩
theorem rows_at {rows : List Row} {k : Nat} {r : Row} (h : rows[k]? = some r) : atI (rows.map Row.d) ((k : Nat) : Int) = some r.d := by
  apply atI_nat
  rw [List.getElem?_map, h]; rfl
theorem dec_nat (a b : Nat) : decide (((a : Nat) : Int) = ((b : Nat) : Int)) = decide (a = b) := by
  by_cases h : a = b
  · subst h; simp
  · have : ¬ ((a : Nat) : Int) = (b : Nat) := by omega
    rw [decide_eq_false h, decide_eq_false this]
theorem ok_sends (F : Fun K "sends" "sends" s_sends g fd) : FnOk P w K mg base CX0 1 g fd ["setting", "program", "k", "i", "j"] (spD K C 5 S_sends) := by
  refine fn_D F sc_sends rfl fun cdv A outer s H E G ds d hr hS => ?_
  obtain ⟨se, rows, k, i, j, r, rfl, hk, rfl⟩ := hS
  have nd := sc_sends.nd
  refine s_seq (s_set (i := 5) nd rfl (.inl rfl) (lt_ rfl) (x_ixt (x_ixt (x_of (pv 1) rfl) x_int rfl) (x_of (pv 2) rfl) (rows_at hk)) rfl) ?_
  refine ss_ifl (t_is (t_cmp op_eq rd_eqI (x_of (pv 3) rfl) (x_of (pv 4) rfl) (nomark _)) (dec_nat i j)) (fun hc => ?_) (fun h0 => ?_)
  · refine s_one (s_ret (x_eq x_bl ?_))
    unfold sendsM; rw [if_pos (of_decide_eq_true hc)]
  have hij : ¬ i = j := of_decide_eq_false h0
  refine ss_ifl (t_is (t_cmp op_eq rd_eqS (x_ixt (x_of (pv 5) rfl) x_int (at0 _ _)) x_str (nomark _)) (k_is0 _)) (fun hc => ?_) (fun h1 => ?_)
  · cases r with
    | inp m =>
      refine s_one (s_ret (x_eq (x_cmp op_eq rd_eqI (x_ixt (x_of (pv 5) rfl) x_int rfl) (x_of (pv 3) rfl) (nomark _)) ?_))
      unfold sendsM; rw [if_neg hij, dec_nat]
    | _ => exact absurd hc (by simp [Row.tag])
  refine ss_ifl (t_is (t_cmp op_eq rd_eqS (x_ixt (x_of (pv 5) rfl) x_int (at0 _ _)) x_str (nomark _)) (k_is6 _)) (fun hc => ?_) (fun h2 => ?_)
  · cases r with
    | out a m =>
      refine s_one (s_ret (x_eq (x_cmp op_eq rd_eqI (x_ixt (x_of (pv 5) rfl) x_int rfl) (x_of (pv 4) rfl) (nomark _)) ?_))
      unfold sendsM; rw [if_neg hij, dec_nat]
    | _ => exact absurd hc (by simp [Row.tag])
  refine s_one (s_ret (x_eq (x_in (x_ixt (x_of (pv 5) rfl) x_int (at0 _ _)) (o_tup (x_tup (a_cons x_str (a_cons x_str a_nil))))) ?_))
  rw [k_in48]
  unfold sendsM; rw [if_neg hij]
  cases r <;> first | rfl | (simp [Row.tag] at h1; done) | (simp [Row.tag] at h2; done)
end
end Un
set_option maxHeartbeats 4000000
namespace Un
open PySem L2
/-! tables by rows -/
def genK (f : Nat → Option D) (n : Nat) : List (Key × D) := (List.range n).filterMap fun k => (f k).map fun d => ((Sum.inl ((k : Nat) : Int) : Key), d)
theorem genK_succ (f : Nat → Option D) (n : Nat) : genK f (n + 1) = genK f n ++ (match f n with | some d => [((Sum.inl ((n : Nat) : Int) : Key), d)] | none => []) := by
  unfold genK
  rw [List.range_succ, List.filterMap_append]
  congr 1
  cases h : f n <;> simp [h]
theorem genK_keys {f : Nat → Option D} : ∀ {n : Nat} {kv : Key × D}, kv ∈ genK f n → ∃ k, k < n ∧ kv.1 = Sum.inl ((k : Nat) : Int)
  | 0, kv, h => by simp [genK] at h
  | n + 1, kv, h => by
    rw [genK_succ] at h
    rcases List.mem_append.mp h with h | h
    · obtain ⟨k, h1, h2⟩ := genK_keys h
      exact ⟨k, by omega, h2⟩
    · cases e : f n with
      | none => rw [e] at h; simp at h
      | some d => rw [e] at h; simp at h; exact ⟨n, by omega, by rw [h]⟩
theorem key_ne {a b : Nat} (h : a ≠ b) : ¬ (Sum.inl ((a : Nat) : Int) : Key) = Sum.inl ((b : Nat) : Int) := fun e => h (by injection e with e; omega)
theorem genK_len (f : Nat → Option D) (n : Nat) : (genK f n).length ≤ n := by
  unfold genK
  have := List.length_filterMap_le (fun k : Nat => (f k).map fun d => ((Sum.inl ((k : Nat) : Int) : Key), d)) (List.range n)
  rwa [List.length_range] at this
theorem putD_new {kvs : List (Key × D)} {k : Key} (d : D) (h : ∀ kv ∈ kvs, ¬ kv.1 = k) : putD kvs k d = kvs ++ [(k, d)] := by
  unfold putD
  rw [if_neg]
  intro e
  obtain ⟨kv, h1, h2⟩ := List.any_eq_true.mp e
  exact h kv h1 (of_decide_eq_true h2)
theorem putD_genK {f : Nat → Option D} {n : Nat} {d : D} (h : f n = some d) : putD (genK f n) (Sum.inl ((n : Nat) : Int)) d = genK f (n + 1) := by
  rw [genK_succ, h, putD_new]
  intro kv hkv
  obtain ⟨k, h1, h2⟩ := genK_keys hkv
  rw [h2]
  exact key_ne (by omega)
theorem genK_no {f : Nat → Option D} {n : Nat} (h : f n = none) : genK f (n + 1) = genK f n := by rw [genK_succ, h, List.append_nil]
theorem valD_app (k : Key) : ∀ (a b : List (Key × D)), valD (a ++ b) k = (valD a k).or (valD b k)
  | [], b => rfl
  | p :: a, b => by
    by_cases e : p.1 = k
    · rw [List.cons_append, valD_pos e, valD_pos e]; rfl
    · rw [List.cons_append, valD_neg e, valD_neg e, valD_app k a b]
theorem valD_genK (f : Nat → Option D) (k : Nat) : ∀ n, valD (genK f n) (Sum.inl ((k : Nat) : Int)) = if k < n then f k else none
  | 0 => rfl
  | n + 1 => by
    rw [genK_succ, valD_app, valD_genK f k n]
    by_cases h : k < n
    · rw [if_pos h, if_pos (by omega)]
      cases e : f k with
      | some d => rfl
      | none =>
        show Option.or none _ = none
        cases e2 : f n with
        | none => rfl
        | some d => show valD [_] _ = none; rw [valD_neg (key_ne (by omega))]; rfl
    · rw [if_neg h]
      show valD _ _ = _
      by_cases h2 : k = n
      · subst h2
        rw [if_pos (by omega)]
        cases e2 : f k with
        | none => rfl
        | some d => show valD [_] _ = _; rw [valD_pos rfl]
      · rw [if_neg (by omega)]
        cases e2 : f n with
        | none => rfl
        | some d => show valD [_] _ = none; rw [valD_neg (key_ne (by omega))]; rfl
/-! what is a party's own, row by row -/
def isIn (num : Nat) : Row → Bool
  | .inp j => decide (j = num)
  | _ => false
def mine (num : Nat) : Row → Bool
  | .inp j => decide (j = num)
  | .prod _ _ => true
  | .kept _ => true
  | _ => false
def usedAt (num : Nat) (rows : List Row) (k : Nat) : Nat := ((rows.take k).filter (isIn num)).length
def atAt (t num : Nat) (rows : List Row) (k : Nat) : Nat := t * ((rows.take k).filter (mine num)).length
def drawnAt (t num : Nat) (rows : List Row) (coins : List Int) (k : Nat) : List Int := (coins.drop (atAt t num rows k)).take t
def givenF (num : Nat) (rows : List Row) (inputs : List Int) (k : Nat) : Option D := (rows[k]?).bind fun r => if isIn num r then some (.int (inputs.getD (usedAt num rows k) 0)) else none
def drawnF (t num : Nat) (rows : List Row) (coins : List Int) (k : Nat) : Option D := (rows[k]?).bind fun r => if mine num r then some (.tup (inz (drawnAt t num rows coins k))) else none
theorem usedAt_succ {num : Nat} {rows : List Row} {k : Nat} {r : Row} (h : rows[k]? = some r) : usedAt num rows (k + 1) = usedAt num rows k + (if isIn num r then 1 else 0) := by
  unfold usedAt
  rw [(split_at h).2, filter_snoc, List.length_append]
  split <;> rfl
theorem atAt_succ {t num : Nat} {rows : List Row} {k : Nat} {r : Row} (h : rows[k]? = some r) : atAt t num rows (k + 1) = atAt t num rows k + (if mine num r then t else 0) := by
  unfold atAt
  rw [(split_at h).2, filter_snoc, List.length_append, Nat.mul_add]
  split
  · rw [List.length_singleton, Nat.mul_one]
  · rw [List.length_nil, Nat.mul_zero]
theorem usedAt_le (num : Nat) (rows : List Row) : ∀ k m, k ≤ m → usedAt num rows k ≤ usedAt num rows m := by
  intro k m h
  unfold usedAt
  have e : rows.take k = (rows.take m).take k := by rw [List.take_take, Nat.min_eq_left h]
  rw [e]
  exact (List.Sublist.filter (isIn num) (List.take_sublist k (rows.take m))).length_le
def S_by_rows (ds : List D) (d : D) : Prop := ∃ (s : Se) (rows : List Row) (num : Nat) (inputs coins : List Int), ds = [s.d, progD rows, .int (num : Int), .tup (inz inputs), .tup (inz coins)] ∧ rows.length ≤ 1000 ∧ inputs.length = usedAt num rows rows.length ∧
  d = .tup [.dic (genK (givenF num rows inputs) rows.length), .dic (genK (drawnF s.t num rows coins) rows.length)]
theorem kb_is0 : ∀ t : Fin 9, (kindS t == ("in" : Str)) = decide (t = 0) := by decide +kernel
theorem kind_ok : ∀ t : Fin 9, PyData.canLay0 (.str (kindS t)) = true := by decide +kernel
theorem row_cut2 (r : Row) : cutD (.str (kindS r.tag) :: r.args) none (some 2) = .str (kindS r.tag) :: r.args.take 1 := cutD_to _ 2
theorem row_ok (r : Row) : eqOk (.tup (.str (kindS r.tag) :: r.args.take 1)) := by
  have h := kind_ok r.tag
  simp only [PyData.canLay0] at h
  cases r <;> exact ⟨by simp [Row.args, pureD, pureDs], by
    simp only [Row.tag] at h
    simp [Row.args, Row.tag, pyD, pysD, SeqAt.shaped, PyData.canLay0, PyData.canLayAll0, PyData.depth, PyData.depthAll, h]⟩
theorem in_ok (num : Int) : eqOk (.tup [.str "in", .int num]) := by
  have h := kind_ok 0
  simp only [PyData.canLay0] at h
  exact ⟨by simp [pureD, pureDs], by
    have h : PyData.strOk ("in" : Str) = true := h
    simp [pyD, pysD, SeqAt.shaped, PyData.canLay0, PyData.canLayAll0, PyData.depth, PyData.depthAll, h]⟩
theorem row_eqv (r : Row) (num : Nat) : PyData.eqv (pyD (.tup (.str (kindS r.tag) :: r.args.take 1))) (pyD (.tup [.str "in", .int ((num : Nat) : Int)])) = isIn num r := by
  have h := kb_is0 r.tag
  have e : ∀ a b : Nat, (((a : Nat) : Int) == ((b : Nat) : Int)) = decide (a = b) := fun a b => dec_nat a b
  cases r <;> (simp only [Row.tag] at h; simp [Row.args, Row.tag, pyD, pysD, PyData.eqv, PyData.eqvAll, isIn, h, e])
section
variable {P : Program} {w : World} {K : PySem.W.Frag} {mg : Str → Option Value} {base : Heap} {C : Addr} {g : Addr} {fd : FuncData}
abbrev s_by_rows : Stmt := top 35
abbrev N_by_rows : List Str := ["setting", "program", "number", "inputs", "coins", "t", "given", "drawn", "used", "at", "k", "row"]
theorem sc_by_rows : FnScope N_by_rows ["setting", "program", "number", "inputs", "coins"] (defScope s_by_rows) := ⟨rfl, rfl, rfl, by decide +kernel, rfl, by decide +kernel, by decide +kernel⟩
theorem ok_by_rows (B : Bt mg) (F : Fun K "by_rows" "by_rows" s_by_rows g fd) : FnOk P w K mg base CX0 1 g fd ["setting", "program", "number", "inputs", "coins"] (spD K C 5 S_by_rows) := by
  refine fn_D F sc_by_rows rfl fun cdv A outer s H E G ds d hr hS => ?_
  obtain ⟨se, rows, num, inputs, coins, rfl, hz, hin, rfl⟩ := hS
  have nd := sc_by_rows.nd
  have hu : (bX P w K mg base N_by_rows "by_rows" s_by_rows g cdv A outer s H E).A.units + 64 < cLine := hr.units
  refine s_seq (s_set (i := 5) nd rfl (.inl rfl) (lt_ rfl) (x_ixt (x_of (pv 0) rfl) x_int rfl) rfl) ?_
  refine s_seq (s_setD (i := 6) nd rfl (.inl rfl) (lt_ rfl) rfl) ?_
  refine s_seq (s_setD (i := 7) nd rfl (.inl rfl) (lt_ rfl) rfl) ?_
  refine s_seq (s_set (i := 8) nd rfl (.inl rfl) (lt_ rfl) x_int rfl) ?_
  refine s_seq (s_set (i := 9) nd rfl (.inl rfl) (lt_ rfl) x_int rfl) ?_
  let I : Nat → List Sl → Prop := fun i e => ∃ u v, e = [.dat se.d, .dat (progD rows), .dat (.int (num : Int)), .dat (.tup (inz inputs)), .dat (.tup (inz coins)), .dat (.int (se.t : Int)),
    .ownd (genK (givenF num rows inputs) i), .ownd (genK (drawnF se.t num rows coins) i), .dat (.int (usedAt num rows i : Nat)), .dat (.int (atAt se.t num rows i : Nat)), u, v]
  refine s_cons (N1 := I rows.length) (s_forr (n := (rows.map Row.d).length) (j := 10) I PassesOwn.never rfl (i_rng1 (by rw [List.length_map]; omega) rfl B.range (x_len rfl B.len (o_tup (x_ixt (x_of (pv 1) rfl) x_int rfl)))) (pg_name (i := 10) nd rfl (.inl rfl)) ?_ ?_ ?_ ?_) ?_
  · exact ⟨.no, .no, by simp [genK, usedAt, atAt]; rfl⟩
  · rintro i _ ⟨u, v, rfl⟩; exact lt_ rfl
  · rintro i _ hi ⟨u, v, rfl⟩
    rw [List.length_map] at hi
    rw [Int.zero_add]
    have hk : rows[i]? = some rows[i] := List.getElem?_eq_getElem hi
    generalize hrr : rows[i] = r at hk
    have hu1 := usedAt_succ (num := num) hk
    have ha1 := atAt_succ (t := se.t) (num := num) hk
    refine s_seq (s_set (i := 11) (d := r.d) nd rfl (.inl rfl) (lt_ rfl) (x_ixt (x_ixt (x_of (pv 1) rfl) x_int rfl) (x_of (pv 10) rfl) (rows_at hk)) rfl) ?_
    have em : (decide (r.tag = 4 ∨ r.tag = 8) || isIn num r) = mine num r := by cases r <;> simp [Row.tag, isIn, mine]
    refine ss_ifj (δ1 := [.dat se.d, .dat (progD rows), .dat (.int (num : Int)), .dat (.tup (inz inputs)), .dat (.tup (inz coins)), .dat (.int (se.t : Int)),
        .ownd (genK (givenF num rows inputs) i), .ownd (genK (drawnF se.t num rows coins) (i + 1)), .dat (.int (usedAt num rows i : Nat)), .dat (.int (atAt se.t num rows (i + 1) : Nat)), .dat (.int (i : Nat)), .dat r.d])
      (t_is (PW.pt (w_or (t_is (t_in (x_ixt (x_of (pv 11) rfl) x_int (at0 _ _)) (o_tup (x_tup (a_cons x_str (a_cons x_str a_nil))))) (k_in48 _)) fun hc => w_or1 (t_is (t_eqD hu (x_eq (x_sl (x_of (pv 11) rfl) p_no (p_int x_int)) (congrArg D.tup (row_cut2 r))) (x_tup (a_cons x_str (a_cons (x_of (pv 2) rfl) a_nil))) (row_ok r) (in_ok _)) (row_eqv r num)))) em) (fun hc => ?_) (fun hc => ?_) ?_
    · have hf : drawnF se.t num rows coins i = some (.tup (inz (drawnAt se.t num rows coins i))) := by unfold drawnF; rw [hk]; show (if mine num r then _ else _) = _; rw [if_pos hc]
      refine s_seq (s_dput (j := 7) (k := Sum.inl ((i : Nat) : Int)) (d := .tup (inz (drawnAt se.t num rows coins i))) (hu_of hr) (pv 7) rfl (lt_ rfl) (by have := genK_len (drawnF se.t num rows coins) i; omega) (x_of (pv 10) rfl)
        (x_eq (x_sl (x_of (pv 4) rfl) (p_int (x_of (pv 9) rfl)) (p_int (x_add (x_of (pv 9) rfl) (x_of (pv 5) rfl)))) ?_) rfl) ?_
      · rw [show ((atAt se.t num rows i : Nat) : Int) + (se.t : Int) = ((atAt se.t num rows i + se.t : Nat) : Int) by omega, cutD_mid, inz_drop, inz_take, Nat.add_sub_cancel_left]; rfl
      refine s_one (s_set (i := 9) nd rfl (.inl rfl) (lt_ rfl) (x_eq (x_add (x_of (pv 9) rfl) (x_of (pv 5) rfl)) (d' := .int (atAt se.t num rows (i + 1) : Nat)) ?_) ?_)
      · rw [ha1, if_pos hc]; congr 1
      · rw [putD_genK hf]; rfl
    · have hf : drawnF se.t num rows coins i = none := by unfold drawnF; rw [hk]; show (if mine num r then _ else _) = _; rw [if_neg (by rw [hc]; decide)]
      refine s_nil ?_
      rw [genK_no hf, ha1, if_neg (by rw [hc]; decide)]; rfl
    refine pss_imp (ss_ifj (rest := []) (δ1 := [.dat se.d, .dat (progD rows), .dat (.int (num : Int)), .dat (.tup (inz inputs)), .dat (.tup (inz coins)), .dat (.int (se.t : Int)),
        .ownd (genK (givenF num rows inputs) (i + 1)), .ownd (genK (drawnF se.t num rows coins) (i + 1)), .dat (.int (usedAt num rows (i + 1) : Nat)), .dat (.int (atAt se.t num rows (i + 1) : Nat)), .dat (.int (i : Nat)), .dat r.d])
      (t_is (t_eqD hu (x_eq (x_sl (x_of (pv 11) rfl) p_no (p_int x_int)) (congrArg D.tup (row_cut2 r))) (x_tup (a_cons x_str (a_cons (x_of (pv 2) rfl) a_nil))) (row_ok r) (in_ok _)) (row_eqv r num)) (fun hc => ?_) (fun hc => ?_) (s_nil ⟨_, _, rfl⟩)) fun _ _ _ h => h
    · have hf : givenF num rows inputs i = some (.int (inputs.getD (usedAt num rows i) 0)) := by unfold givenF; rw [hk]; show (if isIn num r then _ else _) = _; rw [if_pos hc]
      have hlt : usedAt num rows i < inputs.length := by
        have := usedAt_le num rows (i + 1) rows.length (by omega)
        rw [hu1, if_pos hc] at this
        omega
      refine s_seq (s_dput (j := 6) (k := Sum.inl ((i : Nat) : Int)) (hu_of hr) (pv 6) rfl (lt_ rfl) (by have := genK_len (givenF num rows inputs) i; omega) (x_of (pv 10) rfl) (x_ixt (x_of (pv 3) rfl) (x_of (pv 8) rfl) (inz_at hlt)) rfl) ?_
      refine s_one (s_set (i := 8) nd rfl (.inl rfl) (lt_ rfl) (x_eq (x_add (x_of (pv 8) rfl) x_int) (d' := .int (usedAt num rows (i + 1) : Nat)) ?_) ?_)
      · rw [hu1, if_pos hc]; congr 1
      · rw [putD_genK hf]; rfl
    · have hf : givenF num rows inputs i = none := by unfold givenF; rw [hk]; show (if isIn num r then _ else _) = _; rw [if_neg (by rw [hc]; decide)]
      refine s_nil ?_
      rw [genK_no hf, hu1, if_neg (by rw [hc]; decide)]; rfl
  · rintro _ h; rw [List.length_map] at h; exact h
  · rintro _ ⟨u, v, rfl⟩
    refine ss_frzd (i := 6) rfl (lt_ rfl) rfl (ss_frzd (i := 7) rfl (lt_ rfl) rfl ?_)
    exact s_one (s_ret (x_tup (a_cons (x_of (pv 6) rfl) (a_cons (x_of (pv 7) rfl) a_nil))))
end
end Un
set_option maxHeartbeats 4000000
/-! Un: more rules. -/
namespace Un
open PySem L2
theorem all_lt {l : List Nat} {n : Nat} (h : (l.all fun i => Nat.ble (i + 1) n) = true) : ∀ i ∈ l, i < n := fun i hi => Nat.le_of_ble_eq_true (List.all_eq_true.mp h i hi)
section
variable {X : Cx} {f : Fm} {δ : List Sl}
/-- y = [elt for a in l] -/
theorem s_setLca {α : Type} {l : List α} {h : α → D} (g : α → D) {i j : Nat} {y xn : Str} {py px pos spos : Pos} {elt iter : Expr} {scope : Scope} {δ1 : List Sl} {R : V → Hp → Prop}
    (hc : X.calm = true) (hN : X.N.Nodup) (hy : X.N[i]? = some y) (hyl : X.env.scope.names.lookup y = some .local) (hl : i < δ.length) (hj : j < δ.length) (hz : l.length ≤ 100000)
    (hsw : swapsWith (.ListComp elt [⟨.Name xn px, iter, [], 0⟩] scope pos) (some (.Name y py)) spos.line X.env = pure true)
    (hi : PI X (.Name xn px) iter (tIs X.K f δ fun e => e = l.map h)) (ok : BlkOk X.N X.env.scope scope [(xn, j)])
    (hg : ∀ (s : Shared) (H : Hp) (C : Addr) (cl : List (Str × Addr)) (fp : List Addr), PG (X.blk s H scope (compEnvC scope cl C X.env) fp) (.Name xn px) (gName j))
    (he : ∀ a, a ∈ l → ∀ (s : Shared) (H : Hp) (C : Addr) (cl : List (Str × Addr)) (fp : List Addr), PE (X.blk s H scope (compEnvC scope cl C X.env) fp) elt (tD X.K f (δ.set j (.dat (h a))) (g a)))
    (h1 : δ.set i (.own (l.map g)) = δ1) (hf : ∀ x, foldedSetIterable iter X.env x = pure x := by intro _; rfl) :
    PS X (.Assign [.Name y py] (.ListComp elt [⟨.Name xn px, iter, [], 0⟩] scope pos) spos) (tX X.K f δ (fun δ' => δ' = δ1) R) := by
  have e : l.map g = (l.filter fun _ => true).map g := by rw [List.filter_eq_self.mpr (fun _ _ => rfl)]
  rw [e] at h1
  exact s_setLcm (fun _ => true) g hc hN hy hyl hl hj hz hsw hi ok hg (fun a _ s H C cl fp => pts_imp pts_nil fun σ H Q ⟨G, rp, q⟩ => q G H (Step.refl rp.gh)) (fun a ha _ => he a ha) h1 hf
/-- x = dict(e): an own copy -/
theorem cr_dict : CallR X (.type "dict") (fun xs H Q => ∃ a kvs, xs = [V.ref a] ∧ H a = some (.dK kvs) ∧ ∀ p, H p = none → Q (.ref p) (upd H p (.dK kvs))) := by
  intro pins s σ H xs us Q I r h
  obtain ⟨a, kvs, rfl, h1, q⟩ := h
  rw [Vals.ref1 r]
  exact d_copyOf I (.inl h1) fun p s' hp I' => ⟨.ref p, _, I', rfl, q p hp⟩
theorem s_setDc {i : Nat} {y : Str} {e : Expr} {p pos' cpos pos : Pos} {kvs : List (Key × D)} {δ1 : List Sl} {R : V → Hp → Prop} (hN : X.N.Nodup) (hi : X.N[i]? = some y) (hx : Loc X.env.scope y) (hl : i < δ.length) (hg : Gl X "dict") (hm : X.mg "dict" = none) (he : PE X e (tD X.K f δ (.dic kvs))) (h1 : δ.set i (.ownd kvs) = δ1)
    (hs : swapsWith (.Call (.Name "dict" p) [e] [] cpos) (some (.Name y pos')) pos.line X.env = pure false := by rfl) (hf : X.fn y = true ∨ X.env.scope.names.lookup y = some .local := by first | exact .inl rfl | exact .inr rfl | assumption)
    (hst : starEach (e :: []) X.env = (false, eval e X.env) :: starEach [] X.env := by rfl) (hpl : (backTo cpos (starEach [] X.env)).any (·.1) = false := by rfl) :
    PS X (.Assign [.Name y pos'] (.Call (.Name "dict" p) [e] [] cpos) pos) (tX X.K f δ (fun δ' => δ' = δ1) R) :=
  ps_imp (ps_set hN hi hx (pe_callTy cr_dict hg hm (by decide +kernel) (pa_cons he pa_nil hst) (by decide) (by decide) hst hpl) hs hf) fun Dn σ H ⟨G, rp, hn, hr⟩ => ⟨G, rp, fun v d G' H' t e z => by
    subst e
    obtain ⟨a, ys, rfl, q1, q2⟩ := z.dic_inv
    refine ⟨a, ys, rfl, t.gh _ _ q1, fun w hw => ?_⟩
    have rp' := rp.step t
    have t2 := rp'.stepNew (o := .dK ys) hw
    refine hn _ _ _ _ h1 t.gg (rp'.setOwn t2 hl hw ⟨w, ys, rfl, upd_same, q2, t.gh.none hw, ?_, (rp.back t hw).2⟩)
    cases q : f.H0 w with
    | none => rfl
    | some o => exact absurd hw (rp'.st.rm w (ne_none q))⟩
/-- xs.extend(ys), xs an own list -/
theorem s_ext {o e : Expr} {i : Nat} {apos cpos pos : Pos} {ds es : List D} {δ1 : List Sl} {R : V → Hp → Prop} (ho : PE X o (tVar i)) (hd : dAt δ i = .own ds) (hl : i < δ.length) (hz : ds.length + es.length ≤ 100000) (he : PE X e (tSt X.K f δ es)) (h1 : δ.set i (.own (ds ++ es)) = δ1)
    (hbase : attributeBase o "extend" X.env (eval o X.env) = eval o X.env := by rfl)
    (hfew : ((backTo cpos (starEach (e :: []) X.env)).all (fun x => !x.1) && (backToKw cpos (keywordEach [] X.env)).all (fun x => x.1.isSome)
      && decide ((e :: []).length + ([] : List Keyword).length + (if ([] : List Keyword).isEmpty then 0 else 1) < 30)) = true := by rfl)
    (hline : (apos.endLine == cpos.line) = true := by rfl) (hst : starEach (e :: []) X.env = (false, eval e X.env) :: starEach [] X.env := by rfl) (hplain : (backTo cpos (starEach [] X.env)).any (·.1) = false := by rfl)
    (hs : swapsWith (.Call (.Attribute o "extend" apos) [e] [] cpos) none pos.line X.env = pure false := by rfl) :
    PS X (.Expr (.Call (.Attribute o "extend" apos) [e] [] cpos) pos) (tX X.K f δ (fun δ' => δ' = δ1) R) :=
  ps_imp (ps_expr (pe_bm PySem.F.plainAttrs_list PySem.F.slot_list_extend PySem.F.type_list_extend mt_extend ho (pa_cons he pa_nil hst) hbase hfew hline hst hplain) hs) fun Dn σ H ⟨G, rp, hn, hr⟩ => by
    have s := rp.slot i
    rw [hd] at s
    obtain ⟨l, xs, e1, e2, e3, e4, e5, e6⟩ := s
    refine ⟨.ref l, sAt_some e1, .inl ⟨rfl, xs, SqL.of e2⟩, G, rp, fun b ys G' H' t st z => ?_⟩
    have rp' := rp.step t
    have s' := rp'.slot i
    rw [hd] at s'
    obtain ⟨l', xs', f1, f2, f3, f4, f5, f6⟩ := s'
    rw [e1] at f1; cases f1
    refine ⟨l, b, xs', ys, rfl, rfl, f2, st G' H' (Step.refl t.gh), by rw [← f3.len, ← z.len]; exact Nat.le_trans hz (by decide), ?_⟩
    exact hn _ _ G' _ h1 t.gg (rp'.chOwn hl (by rw [hd]; rfl) e1 f4 f5 f6 rfl ⟨l, xs' ++ ys, rfl, upd_same, f3.app z, f4, f5, f6⟩)
section
variable {k n : Nat} {ps : List Str} {x m : Str} {p pos apos : Pos} {e o v : Expr} {es : List Expr}
/-- o.m(e, ..), a new list -/
theorem x_methN {pl : Sem Bool} {S : List D → List D → Prop} {fs : List (Str × D)} {ds : List D} {d : List D} (cl : Cls X.K f.C) (c : Mtd X.prog X.w X.K X.mg X.base f.C m k ps (spN X.K f.C n S)) (hr : Room k X.A) (ho : PE X o (tD X.K f δ (.obj fs))) (hl : fs.lookup m = none)
    (ha : PA X (e :: es) (tL X.K f δ ds)) (hS : ds.length + 1 = n ∧ S (.obj fs :: ds) d)
    (hst : starEach (e :: es) X.env = (false, eval e X.env) :: starEach es X.env := by rfl) (hpl : (backTo pos (starEach es X.env)).any (·.1) = false := by rfl)
    (ht : eval (.Call (.Attribute o m apos) (e :: es) [] pos) X.env = (do
      let ov ← eval o X.env
      standAt apos.atName
      let (f, first) ← holding [ov] (getMethod ov m pl)
      callWith pos f first (backTo pos (starEach (e :: es) X.env)) (backToKw pos (keywordEach [] X.env))) := by rfl) :
    PE X (.Call (.Attribute o m apos) (e :: es) [] pos) (tN X.K f δ d) := by
  obtain ⟨g, fd, F, hm, hb⟩ := c.ex
  refine pe_imp (pe_meth ho cl hm F hr hb .nil pass0 ha hst hpl ht) fun σ H Q ⟨G, rp, q⟩ => ⟨G, rp, fun v dd G1 H1 t1 p1 z1 => ?_⟩
  subst p1
  obtain ⟨a, dx, ys, rfl, h1, h2⟩ := z1.obj_inv
  refine ⟨a, dx, ys, rfl, t1.gh _ _ h1, h2.none hl, G1, rp.step t1, fun vs ds' G2 H2 t2 e2 z2 => ?_⟩
  subst e2
  rw [List.append_nil]
  have rp2 := (rp.step t1).step t2
  refine ⟨G2, _, d, by rw [List.length_cons]; exact hS.1, t2.gh, dats_cons (z1.mono t2.gg) z2, hS.2, fun w xs G' H' t hp hg' ho z => ?_⟩
  have b := rp.back (t1.trans t2) hp
  exact q w xs d G' H' ((t1.trans t2).trans (t.step rp2.hM)) b.1 hg' b.2 ho rfl z
/-- o.m(e, xs), xs an own list, the answer flat -/
theorem x_meth1o {pl : Sem Bool} {S : List D → D → Prop} {fs : List (Str × D)} {d1 : D} {i : Nat} {ds : List D} {d : D} (cl : Cls X.K f.C) (c : Mtd X.prog X.w X.K X.mg X.base f.C m k ps (spD X.K f.C 3 S)) (hr : Room k X.A) (ho : PE X o (tD X.K f δ (.obj fs))) (hl : fs.lookup m = none)
    (he : PE X e (tD X.K f δ d1)) (hv : PE X v (tVar i)) (hd : dAt δ i = .own ds) (hS : S [.obj fs, d1, .lst ds] d) (fl : flatD d = true)
    (hst : starEach (e :: [v]) X.env = (false, eval e X.env) :: starEach [v] X.env := by rfl) (hst2 : starEach (v :: []) X.env = (false, eval v X.env) :: starEach [] X.env := by rfl) (hpl : (backTo pos (starEach [v] X.env)).any (·.1) = false := by rfl)
    (ht : eval (.Call (.Attribute o m apos) (e :: [v]) [] pos) X.env = (do
      let ov ← eval o X.env
      standAt apos.atName
      let (f, first) ← holding [ov] (getMethod ov m pl)
      callWith pos f first (backTo pos (starEach (e :: [v]) X.env)) (backToKw pos (keywordEach [] X.env))) := by rfl) :
    PE X (.Call (.Attribute o m apos) (e :: [v]) [] pos) (tD X.K f δ d) := by
  obtain ⟨g, fd, F, hm, hb⟩ := c.ex
  refine pe_imp (pe_meth ho cl hm F hr hb .nil pass0 (pa_cons he (pa_cons hv pa_nil hst2) hst) hst hpl ht) fun σ H Q ⟨G, rp, q⟩ => ⟨G, rp, fun v dd G1 H1 t1 p1 z1 => ?_⟩
  subst p1
  obtain ⟨a, dx, ys, rfl, h1, h2⟩ := id z1.obj_inv
  refine ⟨a, dx, ys, rfl, t1.gh _ _ h1, h2.none hl, G1, rp.step t1, fun u d2 G2 H2 t2 e2 z2 => ?_⟩
  subst e2
  have rp2 := (rp.step t1).step t2
  have s := rp2.slot i
  rw [hd] at s
  obtain ⟨l, xs, e1, e2, e3, e4, e5, e6⟩ := s
  refine ⟨.ref l, sAt_some e1, ?_⟩
  show L2.tNil _ _ _
  have sb : Sub G2 (upd G2 l (.lst xs)) := Sub.new e4
  have gh : Sub (upd G2 l (.lst xs)) H2 := fun b o eb => by
    by_cases h : b = l
    · subst h; rw [upd_same] at eb; cases eb; exact e2
    · rw [upd_ne h] at eb; exact rp2.gh b o eb
  refine ⟨upd G2 l (.lst xs), [.obj fs, d2, .lst ds], d, rfl, gh, dats_cons (z1.mono (t2.gg.trans sb)) (dats_cons (z2.mono sb) (dats_cons (dat_lst upd_same (e3.mono sb)) dats_nil)), hS, fun w G' H' t z => ?_⟩
  have t3 : Step f G2 H2 G2 H' := {
    gg := Sub.refl _
    gh := rp2.gh.trans t.hh
    rh := fun a o _ h => t.hh a o h
    rm := fun a h => by
      cases q : H2 a with
      | none => exact absurd q h
      | some o => exact ne_none (t.hh a o q)
    fr := fun a _ h => h
    inv := f.keep _ _ _ _ (Sub.refl _) fun a mm => by
      cases q : H2 a with
      | none => exact absurd q (rp2.hM a mm)
      | some o => exact t.hh a o q }
  refine q w d G2 H' ((t1.trans t2).trans t3) rfl ?_
  cases d with
  | non => rw [z.non_inv]; exact dat_non
  | bl b => rw [z.bl_inv]; exact dat_bl
  | int b => rw [z.int_inv]; exact dat_int
  | str b => rw [z.str_inv]; exact dat_str
  | _ => cases fl
end
end
end Un
set_option maxHeartbeats 4000000
namespace Un
open PySem L2
/-! parties -/
def ptsN (n : Nat) : List Nat := (List.range n).map fun i => i + 1
theorem ptsN_len (n : Nat) : (ptsN n).length = n := by simp [ptsN]
theorem pts_nat (n : Nat) : inz (pts n) = natz (ptsN n) := by
  unfold inz pts natz ptsN
  rw [List.map_map, List.map_map]
  apply List.map_congr_left
  intro i _
  show D.int (1 + (i : Int)) = D.int ((i + 1 : Nat) : Int)
  congr 1; omega
theorem mem_ptsN {n i : Nat} : i ∈ ptsN n ↔ 1 ≤ i ∧ i ≤ n := by
  unfold ptsN
  rw [List.mem_map]
  constructor
  · rintro ⟨j, h, rfl⟩; have := List.mem_range.mp h; omega
  · rintro ⟨h1, h2⟩; exact ⟨i - 1, List.mem_range.mpr (by omega), by omega⟩
/-- what came about a row: sender and number -/
abbrev Came := List (Nat × Int)
def camD (c : Came) : List (Key × D) := c.map fun x => ((Sum.inl ((x.1 : Nat) : Int) : Key), D.int x.2)
theorem valD_cam (i : Nat) : ∀ c : Came, valD (camD c) (Sum.inl ((i : Nat) : Int)) = (c.lookup i).map D.int
  | [] => rfl
  | (j, x) :: c => by
    show valD (((Sum.inl ((j : Nat) : Int) : Key), D.int x) :: camD c) _ = _
    rw [List.lookup_cons]
    by_cases h : i = j
    · subst h
      rw [valD_pos rfl]; simp
    · rw [valD_neg (key_ne (fun e => h e.symm)), valD_cam i c, show (i == j) = false by simp [h]]
theorem camD_len (c : Came) : (camD c).length = c.length := List.length_map ..
structure Pa where
  se : Se
  rows : List Row
  num : Nat
  inputs : List Int
  coins : List Int
  took : List (Nat × Nat × Int)
  came : List Came
def letD (num : Nat) (l : Nat × Nat × Int) : D := .tup [.str "letter", .int (l.1 : Int), .int (l.2.1 : Int), .int (num : Int), .int l.2.2]
def Pa.fs (a : Pa) : List (Str × D) := [("_own", .tup [a.se.d, progD a.rows, .int (a.num : Int), .tup (inz a.inputs), .tup (inz a.coins)]),
  ("_given", .dic (genK (givenF a.num a.rows a.inputs) a.rows.length)), ("_drawn", .dic (genK (drawnF a.se.t a.num a.rows a.coins) a.rows.length)),
  ("_weighed", .tup (inz (weightsM a.se.p (pts a.se.n) 0))), ("_took", .tup (a.took.map (letD a.num))), ("_came", .tup (a.came.map fun c => .dic (camD c)))]
def Pa.d (a : Pa) : D := .obj a.fs
/-- a row that can stand at k -/
def RowOk (s : Se) (k : Nat) (r : Row) : Prop := (∀ a ∈ r.named, a < k) ∧ match r with
  | .inp j => 1 ≤ j ∧ j ≤ s.n
  | .const c => 0 ≤ c ∧ c < s.p
  | .times c _ => 0 ≤ c ∧ c < s.p
  | .out _ j => 1 ≤ j ∧ j ≤ s.n
  | _ => True
def RowsOk (s : Se) (rows : List Row) : Prop := rows.length ≤ 60 ∧ ∀ k r, rows[k]? = some r → RowOk s k r
structure CameOk (a : Pa) (k : Nat) (c : Came) : Prop where
  nd : (c.map (·.1)).Nodup
  inn : ∀ x ∈ c, 1 ≤ x.1 ∧ x.1 ≤ a.se.n ∧ x.1 ≠ a.num
  val : ∀ x ∈ c, 0 ≤ x.2 ∧ x.2 < a.se.p
structure Pa.Ok (a : Pa) : Prop where
  se : a.se.Ok
  rows : RowsOk a.se a.rows
  n1 : 1 ≤ a.num
  n2 : a.num ≤ a.se.n
  inl : a.inputs.length = usedAt a.num a.rows a.rows.length
  col : a.coins.length = atAt a.se.t a.num a.rows a.rows.length
  cal : a.came.length = a.rows.length
  cam : ∀ k c, a.came[k]? = some c → CameOk a k c
  inr : ∀ z ∈ a.inputs, 0 ≤ z ∧ z < a.se.p
theorem f_own : ∀ a b c e g h : D, List.lookup ("_own" : Str) [(("_own" : Str), a), ("_given", b), ("_drawn", c), ("_weighed", e), ("_took", g), ("_came", h)] = some a := by
  intro a b c e g h; rw [List.lookup_cons, show (("_own" : Str) == ("_own" : Str)) = true by decide +kernel]
theorem f_given : ∀ a b c e g h : D, List.lookup ("_given" : Str) [(("_own" : Str), a), ("_given", b), ("_drawn", c), ("_weighed", e), ("_took", g), ("_came", h)] = some b := by
  intro a b c e g h; rw [List.lookup_cons, show (("_given" : Str) == ("_own" : Str)) = false by decide +kernel]
  show List.lookup ("_given" : Str) (("_given", b) :: _) = _
  rw [List.lookup_cons, show (("_given" : Str) == ("_given" : Str)) = true by decide +kernel]
theorem f_drawn : ∀ a b c e g h : D, List.lookup ("_drawn" : Str) [(("_own" : Str), a), ("_given", b), ("_drawn", c), ("_weighed", e), ("_took", g), ("_came", h)] = some c := by
  intro a b c e g h; simp only [List.lookup_cons, show (("_drawn" : Str) == ("_own" : Str)) = false by decide +kernel, show (("_drawn" : Str) == ("_given" : Str)) = false by decide +kernel, show (("_drawn" : Str) == ("_drawn" : Str)) = true by decide +kernel]
theorem f_weighed : ∀ a b c e g h : D, List.lookup ("_weighed" : Str) [(("_own" : Str), a), ("_given", b), ("_drawn", c), ("_weighed", e), ("_took", g), ("_came", h)] = some e := by
  intro a b c e g h; simp only [List.lookup_cons, show (("_weighed" : Str) == ("_own" : Str)) = false by decide +kernel, show (("_weighed" : Str) == ("_given" : Str)) = false by decide +kernel, show (("_weighed" : Str) == ("_drawn" : Str)) = false by decide +kernel, show (("_weighed" : Str) == ("_weighed" : Str)) = true by decide +kernel]
theorem f_took : ∀ a b c e g h : D, List.lookup ("_took" : Str) [(("_own" : Str), a), ("_given", b), ("_drawn", c), ("_weighed", e), ("_took", g), ("_came", h)] = some g := by
  intro a b c e g h; simp only [List.lookup_cons, show (("_took" : Str) == ("_own" : Str)) = false by decide +kernel, show (("_took" : Str) == ("_given" : Str)) = false by decide +kernel, show (("_took" : Str) == ("_drawn" : Str)) = false by decide +kernel, show (("_took" : Str) == ("_weighed" : Str)) = false by decide +kernel, show (("_took" : Str) == ("_took" : Str)) = true by decide +kernel]
theorem f_came : ∀ a b c e g h : D, List.lookup ("_came" : Str) [(("_own" : Str), a), ("_given", b), ("_drawn", c), ("_weighed", e), ("_took", g), ("_came", h)] = some h := by
  intro a b c e g h; simp only [List.lookup_cons, show (("_came" : Str) == ("_own" : Str)) = false by decide +kernel, show (("_came" : Str) == ("_given" : Str)) = false by decide +kernel, show (("_came" : Str) == ("_drawn" : Str)) = false by decide +kernel, show (("_came" : Str) == ("_weighed" : Str)) = false by decide +kernel, show (("_came" : Str) == ("_took" : Str)) = false by decide +kernel, show (("_came" : Str) == ("_came" : Str)) = true by decide +kernel]
/-- no attribute of that name -/
theorem f_no {m : Str} (h : (["_own", "_given", "_drawn", "_weighed", "_took", "_came"] : List Str).all (fun x => !(m == x)) = true) (a : Pa) : a.fs.lookup m = none := by
  simp only [List.all_cons, List.all_nil, Bool.and_true, Bool.and_eq_true, Bool.not_eq_true'] at h
  obtain ⟨h1, h2, h3, h4, h5, h6⟩ := h
  simp only [Pa.fs, List.lookup_cons, h1, h2, h3, h4, h5, h6, List.lookup_nil]
/-- facts of the class of the parties -/
structure Ca (K : PySem.W.Frag) (C : Addr) : Prop where
  cl : Cls K C
  own : NoAttr K C "_own"
  given : NoAttr K C "_given"
  drawn : NoAttr K C "_drawn"
  weighed : NoAttr K C "_weighed"
  took : NoAttr K C "_took"
  came : NoAttr K C "_came"
section
variable {X : Cx} {f : Fm} {δ : List Sl} {e : Expr} {pos : Pos} {a : Pa}
def ownD (a : Pa) : List D := [a.se.d, progD a.rows, .int (a.num : Int), .tup (inz a.inputs), .tup (inz a.coins)]
theorem y_own (c : Ca X.K f.C) (he : PE X e (tD X.K f δ a.d)) (hb : attributeBase e "_own" X.env (eval e X.env) = eval e X.env := by rfl) : PE X (.Attribute e "_own" pos) (tD X.K f δ (.tup (ownD a))) := x_fld c.cl c.own he (f_own _ _ _ _ _ _) hb
theorem y_given (c : Ca X.K f.C) (he : PE X e (tD X.K f δ a.d)) (hb : attributeBase e "_given" X.env (eval e X.env) = eval e X.env := by rfl) : PE X (.Attribute e "_given" pos) (tD X.K f δ (.dic (genK (givenF a.num a.rows a.inputs) a.rows.length))) := x_fld c.cl c.given he (f_given _ _ _ _ _ _) hb
theorem y_drawn (c : Ca X.K f.C) (he : PE X e (tD X.K f δ a.d)) (hb : attributeBase e "_drawn" X.env (eval e X.env) = eval e X.env := by rfl) : PE X (.Attribute e "_drawn" pos) (tD X.K f δ (.dic (genK (drawnF a.se.t a.num a.rows a.coins) a.rows.length))) := x_fld c.cl c.drawn he (f_drawn _ _ _ _ _ _) hb
theorem y_weighed (c : Ca X.K f.C) (he : PE X e (tD X.K f δ a.d)) (hb : attributeBase e "_weighed" X.env (eval e X.env) = eval e X.env := by rfl) : PE X (.Attribute e "_weighed" pos) (tD X.K f δ (.tup (inz (weightsM a.se.p (pts a.se.n) 0)))) := x_fld c.cl c.weighed he (f_weighed _ _ _ _ _ _) hb
theorem y_took (c : Ca X.K f.C) (he : PE X e (tD X.K f δ a.d)) (hb : attributeBase e "_took" X.env (eval e X.env) = eval e X.env := by rfl) : PE X (.Attribute e "_took" pos) (tD X.K f δ (.tup (a.took.map (letD a.num)))) := x_fld c.cl c.took he (f_took _ _ _ _ _ _) hb
theorem y_came (c : Ca X.K f.C) (he : PE X e (tD X.K f δ a.d)) (hb : attributeBase e "_came" X.env (eval e X.env) = eval e X.env := by rfl) : PE X (.Attribute e "_came" pos) (tD X.K f δ (.tup (a.came.map fun c => .dic (camD c)))) := x_fld c.cl c.came he (f_came _ _ _ _ _ _) hb
end
def cameL (a : Pa) (k : Nat) : Came := a.came.getD k []
theorem came_at {a : Pa} (ok : a.Ok) {k : Nat} (h : k < a.rows.length) : atI (a.came.map fun c => D.dic (camD c)) ((k : Nat) : Int) = some (.dic (camD (cameL a k))) := by
  apply atI_nat
  have h2 : k < a.came.length := by rw [ok.cal]; exact h
  unfold cameL
  rw [List.getElem?_map, List.getElem?_eq_getElem h2, List.getD_eq_getElem?_getD, List.getElem?_eq_getElem h2]; rfl
theorem came_ok {a : Pa} (ok : a.Ok) {k : Nat} (h : k < a.rows.length) : CameOk a k (cameL a k) := by
  have h2 : k < a.came.length := by rw [ok.cal]; exact h
  apply ok.cam
  unfold cameL
  rw [List.getD_eq_getElem?_getD, List.getElem?_eq_getElem h2]; rfl
/-! specs -/
def S_number (ds : List D) (d : D) : Prop := ∃ a : Pa, ds = [a.d] ∧ d = .int (a.num : Int)
def S_took (ds : List D) (d : D) : Prop := ∃ a : Pa, ds = [a.d] ∧ d = .tup (a.took.map (letD a.num))
def allCame (a : Pa) (k : Nat) : Bool := decide ((cameL a k).length + 1 = a.se.n)
def S_all_came (ds : List D) (d : D) : Prop := ∃ (a : Pa) (k : Nat), ds = [a.d, .int (k : Int)] ∧ a.Ok ∧ k < a.rows.length ∧ d = .bl (allCame a k)
def toldM (a : Pa) (k : Nat) (mine : Int) : List Int := (ptsN a.se.n).map fun i => if i = a.num then mine else ((cameL a k).lookup i).getD 0
def S_told (ds : List D) (d : D) : Prop := ∃ (a : Pa) (k : Nat) (mine : Int), ds = [a.d, .int (k : Int), .int mine] ∧ a.Ok ∧ k < a.rows.length ∧ allCame a k = true ∧ d = .tup (inz (toldM a k mine))
def S_input_at (ds : List D) (d : D) : Prop := ∃ (a : Pa) (k : Nat), ds = [a.d, .int (k : Int)] ∧ k < a.rows.length ∧ givenF a.num a.rows a.inputs k = some d
def S_coins_at (ds : List D) (d : D) : Prop := ∃ (a : Pa) (k : Nat), ds = [a.d, .int (k : Int)] ∧ k < a.rows.length ∧ drawnF a.se.t a.num a.rows a.coins k = some d
def S_came_from (ds : List D) (d : D) : Prop := ∃ (a : Pa) (k i : Nat) (x : Int), ds = [a.d, .int (k : Int), .int (i : Int)] ∧ a.Ok ∧ k < a.rows.length ∧ (cameL a k).lookup i = some x ∧ d = .int x
section
variable {P : Program} {w : World} {K : PySem.W.Frag} {mg : Str → Option Value} {base : Heap} {C : Addr} {g : Addr} {fd : FuncData}
abbrev s_Party_number : Stmt := inClass (top 36) 1
abbrev N_Party_number : List Str := ["self"]
theorem sc_Party_number : FnScope N_Party_number ["self"] (defScope s_Party_number) := ⟨rfl, rfl, rfl, by decide +kernel, rfl, by decide +kernel, by decide +kernel⟩
theorem ok_number (c : Ca K C) (F : Fun K "number" "Party.number" s_Party_number g fd) : FnOk P w K mg base CX0 1 g fd ["self"] (spD K C 1 S_number) := by
  refine fn_D F sc_Party_number rfl fun cdv A outer s H E G ds d hr hS => ?_
  obtain ⟨a, rfl, rfl⟩ := hS
  exact s_one (s_ret (x_ixt (y_own c (x_of (pv 0) rfl)) x_int rfl))
abbrev s_Party_took : Stmt := inClass (top 36) 4
abbrev N_Party_took : List Str := ["self"]
theorem sc_Party_took : FnScope N_Party_took ["self"] (defScope s_Party_took) := ⟨rfl, rfl, rfl, by decide +kernel, rfl, by decide +kernel, by decide +kernel⟩
theorem ok_took (c : Ca K C) (F : Fun K "took" "Party.took" s_Party_took g fd) : FnOk P w K mg base CX0 1 g fd ["self"] (spD K C 1 S_took) := by
  refine fn_D F sc_Party_took rfl fun cdv A outer s H E G ds d hr hS => ?_
  obtain ⟨a, rfl, rfl⟩ := hS
  exact s_one (s_ret (y_took c (x_of (pv 0) rfl)))
abbrev s_Party__all_came : Stmt := inClass (top 36) 8
abbrev N_Party__all_came : List Str := ["self", "k"]
theorem sc_Party__all_came : FnScope N_Party__all_came ["self", "k"] (defScope s_Party__all_came) := ⟨rfl, rfl, rfl, by decide +kernel, rfl, by decide +kernel, by decide +kernel⟩
theorem ok_all_came (B : Bt mg) (c : Ca K C) (F : Fun K "_all_came" "Party._all_came" s_Party__all_came g fd) : FnOk P w K mg base CX0 1 g fd ["self", "k"] (spD K C 2 S_all_came) := by
  refine fn_D F sc_Party__all_came rfl fun cdv A outer s H E G ds d hr hS => ?_
  obtain ⟨a, k, rfl, ok, hk, rfl⟩ := hS
  have h1 := ok.se.n1
  refine s_one (s_ret (x_eq (x_cmp op_eq rd_eqI (x_lend rfl B.len (x_ixt (y_came c (x_of (pv 0) rfl)) (x_of (pv 1) rfl) (came_at ok hk))) (x_sub (x_ixt (x_ixt (y_own c (x_of (pv 0) rfl)) x_int rfl) x_int rfl) x_int) (nomark _)) ?_))
  rw [camD_len]
  unfold allCame
  congr 1
  exact decide_eq_decide.mpr ⟨fun h => by omega, fun h => by omega⟩
abbrev s_Party_input_at : Stmt := inClass (top 36) 10
abbrev N_Party_input_at : List Str := ["self", "k"]
theorem sc_Party_input_at : FnScope N_Party_input_at ["self", "k"] (defScope s_Party_input_at) := ⟨rfl, rfl, rfl, by decide +kernel, rfl, by decide +kernel, by decide +kernel⟩
theorem ok_input_at (c : Ca K C) (F : Fun K "input_at" "Party.input_at" s_Party_input_at g fd) : FnOk P w K mg base CX0 1 g fd ["self", "k"] (spD K C 2 S_input_at) := by
  refine fn_D F sc_Party_input_at rfl fun cdv A outer s H E G ds d hr hS => ?_
  obtain ⟨a, k, rfl, hk, hf⟩ := hS
  exact s_one (s_ret (x_dget (hu_of hr) (k := Sum.inl ((k : Nat) : Int)) (y_given c (x_of (pv 0) rfl)) (x_of (pv 1) rfl) (by rw [valD_genK, if_pos hk, hf])))
abbrev s_Party_coins_at : Stmt := inClass (top 36) 11
abbrev N_Party_coins_at : List Str := ["self", "k"]
theorem sc_Party_coins_at : FnScope N_Party_coins_at ["self", "k"] (defScope s_Party_coins_at) := ⟨rfl, rfl, rfl, by decide +kernel, rfl, by decide +kernel, by decide +kernel⟩
theorem ok_coins_at (c : Ca K C) (F : Fun K "coins_at" "Party.coins_at" s_Party_coins_at g fd) : FnOk P w K mg base CX0 1 g fd ["self", "k"] (spD K C 2 S_coins_at) := by
  refine fn_D F sc_Party_coins_at rfl fun cdv A outer s H E G ds d hr hS => ?_
  obtain ⟨a, k, rfl, hk, hf⟩ := hS
  exact s_one (s_ret (x_dget (hu_of hr) (k := Sum.inl ((k : Nat) : Int)) (y_drawn c (x_of (pv 0) rfl)) (x_of (pv 1) rfl) (by rw [valD_genK, if_pos hk, hf])))
abbrev s_Party_came_from : Stmt := inClass (top 36) 12
abbrev N_Party_came_from : List Str := ["self", "k", "party"]
theorem sc_Party_came_from : FnScope N_Party_came_from ["self", "k", "party"] (defScope s_Party_came_from) := ⟨rfl, rfl, rfl, by decide +kernel, rfl, by decide +kernel, by decide +kernel⟩
theorem ok_came_from (c : Ca K C) (F : Fun K "came_from" "Party.came_from" s_Party_came_from g fd) : FnOk P w K mg base CX0 1 g fd ["self", "k", "party"] (spD K C 3 S_came_from) := by
  refine fn_D F sc_Party_came_from rfl fun cdv A outer s H E G ds d hr hS => ?_
  obtain ⟨a, k, i, x, rfl, ok, hk, hf, rfl⟩ := hS
  exact s_one (s_ret (x_dget (hu_of hr) (k := Sum.inl ((i : Nat) : Int)) (x_ixt (y_came c (x_of (pv 0) rfl)) (x_of (pv 1) rfl) (came_at ok hk)) (x_of (pv 2) rfl) (by rw [valD_cam, hf]; rfl)))
end
end Un
set_option maxHeartbeats 4000000
namespace Un
open PySem L2
theorem nodup_le {α : Type} [DecidableEq α] : ∀ {l m : List α}, l.Nodup → (∀ x ∈ l, x ∈ m) → l.length ≤ m.length
  | [], _, _, _ => Nat.zero_le _
  | x :: r, m, nd, h => by
    obtain ⟨h1, h2⟩ := List.nodup_cons.mp nd
    have hx : x ∈ m := h x List.mem_cons_self
    have ih := nodup_le (m := m.erase x) h2 fun y hy => (List.mem_erase_of_ne (show y ≠ x from fun e => h1 (e ▸ hy))).mpr (h y (List.mem_cons_of_mem _ hy))
    rw [List.length_erase_of_mem hx] at ih
    have : 0 < m.length := List.length_pos_of_mem hx
    rw [List.length_cons]; omega
theorem ptsN_nodup (n : Nat) : (ptsN n).Nodup := by
  unfold ptsN List.Nodup
  rw [List.pairwise_map]
  exact List.Pairwise.imp (fun {a b} h => by omega) (List.pairwise_lt_range (n := n))
theorem lookup_mem {c : Came} {i : Nat} (h : i ∈ c.map (·.1)) : ∃ x, c.lookup i = some x := by
  induction c with
  | nil => simp at h
  | cons y c ih =>
    rw [List.lookup_cons]
    by_cases e : i = y.1
    · exact ⟨y.2, by simp [e]⟩
    · rw [show (i == y.1) = false by simp [e]]
      rw [List.map_cons] at h
      rcases List.mem_cons.mp h with h | h
      · exact absurd h e
      · exact ih h
theorem all_here {a : Pa} {k : Nat} {c : Came} (ok : CameOk a k c) (hn : 1 ≤ a.num ∧ a.num ≤ a.se.n) (hl : c.length + 1 = a.se.n) {i : Nat} (hi : i ∈ ptsN a.se.n) (hne : i ≠ a.num) : ∃ x, c.lookup i = some x := by
  by_cases h : i ∈ c.map (·.1)
  · exact lookup_mem h
  · exfalso
    have hnum : a.num ∈ ptsN a.se.n := mem_ptsN.mpr hn
    have h1 := nodup_le (l := c.map (·.1)) (m := ((ptsN a.se.n).erase a.num).erase i) ok.nd fun y hy => by
      obtain ⟨x, hx, rfl⟩ := List.mem_map.mp hy
      obtain ⟨q1, q2, q3⟩ := ok.inn x hx
      refine (List.mem_erase_of_ne (show x.1 ≠ i from fun e => h (e ▸ hy))).mpr ((List.mem_erase_of_ne q3).mpr (mem_ptsN.mpr ⟨q1, q2⟩))
    rw [List.length_map, List.length_erase_of_mem ((List.mem_erase_of_ne hne).mpr hi), List.length_erase_of_mem hnum, ptsN_len] at h1
    have h2 : 1 < a.se.n := by
      have := mem_ptsN.mp hi
      omega
    omega
theorem camD_no {a : Pa} {k : Nat} {c : Came} (ok : CameOk a k c) : ∀ kv ∈ camD c, ¬ kv.1 = (Sum.inl ((a.num : Nat) : Int) : Key) := by
  intro kv h
  obtain ⟨x, hx, rfl⟩ := List.mem_map.mp h
  exact key_ne (ok.inn x hx).2.2
def optD : Option Int → D
  | none => .non
  | some i => .int i
def isFd (fd : D) (found : List (Option Int)) : Prop := fd = .tup (found.map optD) ∨ fd = .lst (found.map optD)
def neededM (r : Row) (found : List (Option Int)) : Option (List Int) :=
  if (r.named.map fun a => found.getD a none).any (·.isNone) then none else some ((r.named.map fun a => found.getD a none).map (·.getD 0))
def olD : Option (List Int) → D
  | none => .non
  | some l => .lst (inz l)
def polyM (a : Pa) (k : Nat) (r : Row) (l : List Int) : List Int := (match r with | .prod _ _ => (l.getD 0 0 * l.getD 1 0) % a.se.p | _ => 0) :: drawnAt a.se.t a.num a.rows a.coins k
def reckM (p : Int) (r : Row) (l : List Int) : Int := match r with
  | .times c _ => (c * l.getD 0 0) % p
  | .sum _ _ => (l.getD 0 0 + l.getD 1 0) % p
  | _ => (l.getD 0 0 + (0 - l.getD 1 0)) % p
def joinedM (a : Pa) (k : Nat) (r : Row) (l : List Int) : Option Int :=
  if allCame a k then
    let told := toldM a k (valueAt a.se.p (polyM a k r l) a.num)
    some (match r with
      | .kept _ => (told.sum + l.getD 0 0) % a.se.p
      | _ => ((List.range a.se.n).map fun i => (weightsM a.se.p (pts a.se.n) 0).getD i 0 * told.getD i 0).sum % a.se.p)
  else none
def Rg (p : Int) (l : List Int) : Prop := ∀ z ∈ l, 0 ≤ z ∧ z < p
def S_needed (ds : List D) (d : D) : Prop := ∃ (a : Pa) (k : Nat) (r : Row) (found : List (Option Int)) (fd : D), ds = [a.d, .int (k : Int), fd] ∧ a.rows[k]? = some r ∧ isFd fd found ∧ (∀ x ∈ r.named, x < found.length) ∧ d = olD (neededM r found)
def S_poly (ds : List D) (d : D) : Prop := ∃ (a : Pa) (k : Nat) (r : Row) (l : List Int), ds = [a.d, .int (k : Int), .lst (inz l)] ∧ a.Ok ∧ a.rows[k]? = some r ∧ (r.tag = 4 ∨ r.tag = 8) ∧ l.length = r.named.length ∧ Rg a.se.p l ∧ d = .tup (inz (polyM a k r l))
def S_reckoned (ds : List D) (d : D) : Prop := ∃ (a : Pa) (k : Nat) (r : Row) (l : List Int), ds = [a.d, r.d, .lst (inz l)] ∧ a.se.Ok ∧ RowOk a.se k r ∧ (r.tag = 2 ∨ r.tag = 3 ∨ r.tag = 5) ∧ l.length = r.named.length ∧ Rg a.se.p l ∧ d = .int (reckM a.se.p r l)
def S_joined (ds : List D) (d : D) : Prop := ∃ (a : Pa) (k : Nat) (r : Row) (l : List Int), ds = [a.d, .int (k : Int), .lst (inz l)] ∧ a.Ok ∧ a.rows[k]? = some r ∧ (r.tag = 4 ∨ r.tag = 8) ∧ l.length = r.named.length ∧ Rg a.se.p l ∧ d = optD (joinedM a k r l)
theorem rows_lt {a : Pa} {k : Nat} {r : Row} (h : a.rows[k]? = some r) : k < a.rows.length := by
  cases Nat.lt_or_ge k a.rows.length with
  | inl q => exact q
  | inr q => rw [List.getElem?_eq_none q] at h; cases h
theorem drawnAt_len {t num : Nat} {rows : List Row} {coins : List Int} {k : Nat} : (drawnAt t num rows coins k).length ≤ t := by unfold drawnAt; rw [List.length_take]; omega
theorem weightsM_range {p : Int} (hp : 0 < p) (ns : List Int) (x : Int) : ∀ z ∈ weightsM p ns x, 0 ≤ z ∧ z < p := by
  intro z hz
  obtain ⟨b, _, rfl⟩ := List.mem_map.mp hz
  exact valueAt_range hp b x
theorem weightsM_len (p : Int) (ns : List Int) (x : Int) : (weightsM p ns x).length = ns.length := by simp [weightsM, basesM]
theorem getD_range {p : Int} {l : List Int} (h : ∀ z ∈ l, 0 ≤ z ∧ z < p) (hp : 0 < p) (i : Nat) : 0 ≤ l.getD i 0 ∧ l.getD i 0 < p := by
  rw [List.getD_eq_getElem?_getD]
  cases e : l[i]? with
  | none => exact ⟨Int.le_refl 0, hp⟩
  | some z => exact h z (List.mem_of_getElem? e)
theorem opt_any : ∀ (l : List (Option Int)), inD .non (l.map optD) = l.any (·.isNone)
  | [] => rfl
  | o :: l => by
    have ih := opt_any l
    unfold inD at ih ⊢
    rw [List.map_cons, List.any_cons, List.any_cons, ih]
    cases o <;> rfl
theorem opt_all : ∀ (l : List (Option Int)), l.any (·.isNone) = false → l.map optD = inz (l.map (·.getD 0))
  | [], _ => rfl
  | o :: l, h => by
    rw [List.any_cons, Bool.or_eq_false_iff] at h
    rw [List.map_cons, List.map_cons, opt_all l h.2]
    cases o with
    | none => exact absurd h.1 (by decide)
    | some z => rfl
theorem opt_flat : ∀ (l : List (Option Int)), (l.map optD).all flatD = true
  | [] => rfl
  | o :: l => by rw [List.map_cons, List.all_cons, opt_flat l]; cases o <;> rfl
section
variable {X : Cx} {f : Fm} {δ : List Sl} {e : Expr} {pos : Pos} {a : Pa}
theorem x_suml {α : Type} {l : List α} {g : α → Int} {p : Pos} (hc : X.calm = true) (hg : Gl X "sum") (hm : X.mg "sum" = none) (ha : PE X e (tN X.K f δ (l.map fun a => D.int (g a)))) (he : starEach (e :: []) X.env = (false, eval e X.env) :: starEach [] X.env := by rfl) (hpl : (backTo pos (starEach [] X.env)).any (·.1) = false := by rfl) :
    PE X (.Call (.Name "sum" p) [e] [] pos) (tD X.K f δ (.int (l.map g).sum)) :=
  x_sum hc hg hm (o_new (by have e : inz (l.map g) = l.map fun a => D.int (g a) := by unfold inz; rw [List.map_map]; rfl
                            rw [e]; exact ha)) he hpl
theorem o_fd {fd : D} {found : List (Option Int)} (h : isFd fd found) (he : PE X e (tD X.K f δ fd)) : PE X e (tS X.K f δ (found.map optD)) := by
  rcases h with h | h
  · subst h; exact o_tup he
  · subst h; exact o_l (o_lst he)
end
section
variable {P : Program} {w : World} {K : PySem.W.Frag} {mg : Str → Option Value} {base : Heap} {C : Addr} {g : Addr} {fd : FuncData}
abbrev s_Party__told : Stmt := inClass (top 36) 9
abbrev N_Party__told : List Str := ["self", "k", "mine", "numbers", "party"]
theorem sc_Party__told : FnScope N_Party__told ["self", "k", "mine"] (defScope s_Party__told) := ⟨rfl, rfl, rfl, by decide +kernel, rfl, by decide +kernel, by decide +kernel⟩
theorem ok_told (B : Bt mg) (c : Ca K C) (c_parties : Glo P w K mg base "parties" 1 ["setting"] (spD K C 1 S_parties)) (F : Fun K "_told" "Party._told" s_Party__told g fd) : FnOk P w K mg base CX0 2 g fd ["self", "k", "mine"] (spD K C 3 S_told) := by
  refine fn_D F sc_Party__told rfl fun cdv A outer s H E G ds d hr hS => ?_
  obtain ⟨a, k, mine, rfl, ok, hk, ha, rfl⟩ := hS
  have nd := sc_Party__told.nd
  have h2 := ok.se.n2
  have co := came_ok ok hk
  refine s_seq (s_setDc (i := 3) nd rfl (.inr rfl) (lt_ rfl) rfl B.dict (x_ixt (y_came c (x_of (pv 0) rfl)) (x_of (pv 1) rfl) (came_at ok hk)) rfl) ?_
  have hcl : (camD (cameL a k)).length < 100000 := by
    rw [camD_len]
    have := of_decide_eq_true ha
    omega
  refine s_seq (s_dput (j := 3) (k := Sum.inl ((a.num : Nat) : Int)) (hu_of hr) (pv 3) rfl (lt_ rfl) hcl (x_ixt (y_own c (x_of (pv 0) rfl)) x_int rfl) (x_of (pv 2) rfl) rfl) ?_
  refine s_one (s_ret (x_eq (x_tuple rfl B.tuple (o_new (x_lca (l := ptsN a.se.n) (h := fun (i : Nat) => D.int ((i : Nat) : Int)) (fun i => .int (if i = a.num then mine else ((cameL a k).lookup i).getD 0)) (j := 4) rfl nd (lt_ rfl) (by rw [ptsN_len]; omega)
    (i_s (i_tup (x_eq (x_call c_parties hr (a_cons (x_ixt (y_own c (x_of (pv 0) rfl)) x_int rfl) a_nil) ⟨rfl, a.se, rfl, ok.se, rfl⟩) (congrArg D.tup (pts_nat _))))) (blkOk_by (N := N_Party__told) (sc := defScope s_Party__told) (by decide +kernel)) (fun _ _ _ _ _ => pg_name (i := 4) nd rfl (.inl rfl))
      (fun i hi _ _ _ _ _ => x_dgeto (hu_of hr) (k := Sum.inl ((i : Nat) : Int)) (pv 3) rfl (x_of (pv 4) rfl) ?_)))) ?_))
  · rw [putD_new _ (camD_no co), valD_app]
    by_cases e : i = a.num
    · subst e
      rw [if_pos rfl]
      have : valD (camD (cameL a k)) (Sum.inl ((a.num : Nat) : Int)) = none := by
        rw [valD_cam]
        cases q : (cameL a k).lookup a.num with
        | none => rfl
        | some x =>
          exfalso
          have hm : (a.num, x) ∈ cameL a k := by
            obtain ⟨l1, l2, q1, _⟩ := List.lookup_eq_some_iff.mp q
            rw [q1]; simp
          exact (co.inn _ hm).2.2 rfl
      rw [this, valD_pos rfl]; rfl
    · rw [if_neg e, valD_cam]
      obtain ⟨x, hx⟩ := all_here co ⟨ok.n1, ok.n2⟩ (of_decide_eq_true ha) hi e
      rw [hx]; rfl
  · unfold toldM inz; rw [List.map_map]; rfl
abbrev s_Party__needed : Stmt := inClass (top 36) 13
abbrev N_Party__needed : List Str := ["self", "k", "found", "some", "wire"]
theorem sc_Party__needed : FnScope N_Party__needed ["self", "k", "found"] (defScope s_Party__needed) := ⟨rfl, rfl, rfl, by decide +kernel, rfl, by decide +kernel, by decide +kernel⟩
theorem ok_needed (B : Bt mg) (c : Ca K C) (c_named : Glo P w K mg base "named" 1 ["row"] (spD K C 1 S_named)) (F : Fun K "_needed" "Party._needed" s_Party__needed g fd) : FnOk P w K mg base CX0 2 g fd ["self", "k", "found"] (spD K C 3 S_needed) := by
  refine fn_D F sc_Party__needed rfl fun cdv A outer s H E G ds d hr hS => ?_
  obtain ⟨a, k, r, found, fd, rfl, hk, hf, hn, rfl⟩ := hS
  have nd := sc_Party__needed.nd
  refine s_seq (s_setLca (i := 3) (l := r.named) (h := fun (x : Nat) => D.int ((x : Nat) : Int)) (fun x => optD (found.getD x none)) (j := 4) rfl nd rfl rfl (lt_ rfl) (lt_ rfl) (by cases r <;> simp [Row.named]) (sw_true rfl rfl rfl (by decide +kernel)) (i_s (i_tup (x_call c_named hr (a_cons (x_ixt (x_ixt (x_ixt (y_own c (x_of (pv 0) rfl)) x_int rfl) x_int rfl) (x_of (pv 1) rfl) (rows_at hk)) a_nil) ⟨rfl, r, rfl, rfl⟩))) (blkOk_by (N := N_Party__needed) (sc := defScope s_Party__needed) (by decide +kernel)) (fun _ _ _ _ _ => pg_name (i := 4) nd rfl (.inl rfl))
      (fun x hx _ _ _ _ _ => x_ix (o_fd hf (x_of (pv 2) rfl)) (x_of (pv 4) rfl) ?_) rfl) ?_
  · apply atI_nat
    have l := hn x hx
    rw [List.getElem?_map, List.getElem?_eq_getElem l, List.getD_eq_getElem?_getD, List.getElem?_eq_getElem l]; rfl
  have e1 : (r.named.map fun x => optD (found.getD x none)) = (r.named.map fun x => found.getD x none).map optD := by rw [List.map_map]; rfl
  rw [e1]
  refine ss_frz (i := 3) rfl (lt_ rfl) rfl ?_
  refine s_one (s_ret (x_if (t_is (t_in x_non (o_l (o_lst (x_of (pv 3) rfl))) rfl (opt_flat _)) (opt_any _)) (fun hc => x_eq x_non ?_) (fun hc => x_eq (x_of (pv 3) rfl) ?_)))
  · unfold neededM; rw [if_pos hc]; rfl
  · unfold neededM; rw [if_neg (by rw [hc]; decide)]; exact congrArg D.lst (opt_all _ hc)
abbrev s_Party__poly : Stmt := inClass (top 36) 14
abbrev N_Party__poly : List Str := ["self", "k", "some", "first"]
theorem sc_Party__poly : FnScope N_Party__poly ["self", "k", "some"] (defScope s_Party__poly) := ⟨rfl, rfl, rfl, by decide +kernel, rfl, by decide +kernel, by decide +kernel⟩
theorem ok_poly (B : Bt mg) (c : Ca K C) (F : Fun K "_poly" "Party._poly" s_Party__poly g fd) : FnOk P w K mg base CX0 1 g fd ["self", "k", "some"] (spD K C 3 S_poly) := by
  refine fn_D F sc_Party__poly rfl fun cdv A outer s H E G ds d hr hS => ?_
  obtain ⟨a, k, r, l, rfl, ok, hk, ht, hl, hg, rfl⟩ := hS
  have nd := sc_Party__poly.nd
  have p2 := ok.se.p2; have p3 := ok.se.p3
  have hdr : drawnF a.se.t a.num a.rows a.coins k = some (.tup (inz (drawnAt a.se.t a.num a.rows a.coins k))) := by
    unfold drawnF; rw [hk]
    have hm : mine a.num r = true := by
      cases r with
      | prod _ _ => rfl
      | kept _ => rfl
      | _ => exact absurd ht (by simp [Row.tag])
    show (if mine a.num r then _ else _) = _
    rw [if_pos hm]
  have hkl := rows_lt hk
  refine s_seq (s_set (i := 3) nd rfl (.inl rfl) (lt_ rfl) x_int rfl) ?_
  refine ss_ifj (δ1 := [.dat a.d, .dat (.int (k : Int)), .dat (.lst (inz l)), .dat (.int ((polyM a k r l).getD 0 0))]) (t_is (t_cmp op_eq rd_eqS (x_ixt (x_ixt (x_ixt (x_ixt (y_own c (x_of (pv 0) rfl)) x_int rfl) x_int rfl) (x_of (pv 1) rfl) (rows_at hk)) x_int (at0 _ _)) x_str (nomark _)) (k_is4 _)) (fun hc => ?_) (fun hc => ?_) ?_
  · cases r with
    | prod u v =>
      have l2 : l.length = 2 := hl
      have g0 := getD_range hg (by omega) 0
      have g1 := getD_range hg (by omega) 1
      refine s_one (s_set (i := 3) nd rfl (.inl rfl) (lt_ rfl) (x_mod (show (0 : Int) < a.se.p by omega) (x_inti rfl B.int (x_mul (.inl ⟨by omega, by omega⟩) (x_ix (o_l (o_lst (x_of (pv 2) rfl))) x_int (inz_at (i := 0) (by omega))) (x_ix (o_l (o_lst (x_of (pv 2) rfl))) x_int (inz_at (i := 1) (by omega))))) (x_ixt (x_ixt (y_own c (x_of (pv 0) rfl)) x_int rfl) x_int rfl)) rfl)
    | _ => exact absurd hc (by simp [Row.tag])
  · refine s_nil ?_
    cases r with
    | prod u v => exact absurd hc (by simp [Row.tag])
    | _ => rfl
  have := @drawnAt_len a.se.t a.num a.rows a.coins k
  have ht2 := ok.se.tn; have hn2 := ok.se.n2
  refine s_one (s_ret (x_eq (x_cat (by rw [inz_len, sizeLine_eq]; show 1 + _ ≤ _; omega) (x_tup (a_cons (x_of (pv 3) rfl) a_nil)) (x_dget (hu_of hr) (k := Sum.inl ((k : Nat) : Int)) (y_drawn c (x_of (pv 0) rfl)) (x_of (pv 1) rfl) (by rw [valD_genK, if_pos hkl, hdr]))) rfl))
abbrev s_Party__reckoned : Stmt := inClass (top 36) 16
abbrev N_Party__reckoned : List Str := ["self", "row", "some", "second"]
theorem sc_Party__reckoned : FnScope N_Party__reckoned ["self", "row", "some"] (defScope s_Party__reckoned) := ⟨rfl, rfl, rfl, by decide +kernel, rfl, by decide +kernel, by decide +kernel⟩
theorem ok_reckoned (B : Bt mg) (c : Ca K C) (F : Fun K "_reckoned" "Party._reckoned" s_Party__reckoned g fd) : FnOk P w K mg base CX0 1 g fd ["self", "row", "some"] (spD K C 3 S_reckoned) := by
  refine fn_D F sc_Party__reckoned rfl fun cdv A outer s H E G ds d hr hS => ?_
  obtain ⟨a, k, r, l, rfl, ok, rok, ht, hl, hg, rfl⟩ := hS
  have nd := sc_Party__reckoned.nd
  have p2 := ok.p2; have p3 := ok.p3
  refine ss_ifl (t_is (t_cmp op_eq rd_eqS (x_ixt (x_of (pv 1) rfl) x_int (at0 _ _)) x_str (nomark _)) (k_is5 _)) (fun hc => ?_) (fun h5 => ?_)
  · cases r with
    | times z u =>
      have l2 : l.length = 1 := hl
      have hz : 0 ≤ z ∧ z < a.se.p := rok.2
      exact s_one (s_ret (x_mod (show (0 : Int) < a.se.p by omega) (x_inti rfl B.int (x_mul (.inl ⟨by omega, by omega⟩) (x_ixt (x_of (pv 1) rfl) x_int rfl) (x_ix (o_l (o_lst (x_of (pv 2) rfl))) x_int (inz_at (i := 0) (by omega))))) (x_ixt (x_ixt (y_own c (x_of (pv 0) rfl)) x_int rfl) x_int rfl)))
    | _ => exact absurd hc (by simp [Row.tag])
  have l2 : l.length = 2 := by cases r <;> first | exact hl | (simp [Row.tag] at ht h5; done)
  refine s_seq (s_set (i := 3) (d := .int (if r.tag = 2 then l.getD 1 0 else 0 - l.getD 1 0)) nd rfl (.inl rfl) (lt_ rfl) (x_if (t_is (t_cmp op_eq rd_eqS (x_ixt (x_of (pv 1) rfl) x_int (at0 _ _)) x_str (nomark _)) (k_is2 _)) (fun hc => x_eq (x_ix (o_l (o_lst (x_of (pv 2) rfl))) x_int (inz_at (i := 1) (by omega))) (by rw [if_pos (of_decide_eq_true hc)]))
    (fun hc => x_eq (x_sub x_int (x_ix (o_l (o_lst (x_of (pv 2) rfl))) x_int (inz_at (i := 1) (by omega)))) (by rw [if_neg (of_decide_eq_false hc)]))) rfl) ?_
  refine s_one (s_ret (x_eq (x_mod (show (0 : Int) < a.se.p by omega) (x_inti rfl B.int (x_add (x_ix (o_l (o_lst (x_of (pv 2) rfl))) x_int (inz_at (i := 0) (by omega))) (x_of (pv 3) rfl))) (x_ixt (x_ixt (y_own c (x_of (pv 0) rfl)) x_int rfl) x_int rfl)) ?_))
  cases r <;> first | rfl | (simp [Row.tag] at ht h5; done)
abbrev s_Party__joined : Stmt := inClass (top 36) 17
abbrev N_Party__joined : List Str := ["self", "k", "some", "setting", "program", "number", "told", "place"]
theorem sc_Party__joined : FnScope N_Party__joined ["self", "k", "some"] (defScope s_Party__joined) := ⟨rfl, rfl, rfl, by decide +kernel, rfl, by decide +kernel, by decide +kernel⟩
theorem cut_own (a : Pa) : cutD (ownD a) none (some 3) = [a.se.d, progD a.rows, .int (a.num : Int)] := cutD_to _ 3
theorem ok_joined (B : Bt mg) (c : Ca K C) (c_all_came : Mtd P w K mg base C "_all_came" 1 ["self", "k"] (spD K C 2 S_all_came)) (c_told : Mtd P w K mg base C "_told" 2 ["self", "k", "mine"] (spD K C 3 S_told))
    (c_poly : Mtd P w K mg base C "_poly" 1 ["self", "k", "some"] (spD K C 3 S_poly)) (c_value_at : Glo P w K mg base "value_at" 1 ["p", "poly", "x"] (spD K C 3 S_value_at)) (F : Fun K "_joined" "Party._joined" s_Party__joined g fd) :
    FnOk P w K mg base CX0 3 g fd ["self", "k", "some"] (spD K C 3 S_joined) := by
  refine fn_D F sc_Party__joined rfl fun cdv A outer s H E G ds d hr hS => ?_
  obtain ⟨a, k, r, l, rfl, ok, hk, ht, hl, hg, rfl⟩ := hS
  have nd := sc_Party__joined.nd
  have p2 := ok.se.p2; have p3 := ok.se.p3; have n2 := ok.se.n2
  have hkl := rows_lt hk
  refine ss_ifl (t_not (t_val (x_meth c.cl c_all_came (hr.mono (by decide)) (x_of (pv 0) rfl) (f_no (by decide +kernel) a) (a_cons (x_of (pv 1) rfl) a_nil) ⟨rfl, a, k, rfl, ok, hkl, rfl⟩))) (fun hc => ?_) (fun hc => ?_)
  · refine s_one (s_ret (x_eq x_non ?_))
    unfold joinedM; rw [if_neg (by intro e; rw [e] at hc; cases hc)]; rfl
  have hc : allCame a k = true := by cases q : allCame a k with | true => rfl | false => rw [q] at hc; cases hc
  refine s_seq (s_unpack (is := [3, 4, 5]) (δ1 := [.dat a.d, .dat (.int (k : Int)), .dat (.lst (inz l)), .dat a.se.d, .dat (progD a.rows), .dat (.int (a.num : Int)), .no, .no]) rfl (x_eq (x_sl (y_own c (x_of (pv 0) rfl)) p_no (p_int x_int)) (congrArg D.tup (cut_own a))) (pgs_cons (pg_name (i := 3) nd rfl (.inl rfl)) (pgs_cons (pg_name (i := 4) nd rfl (.inl rfl)) (pgs_cons (pg_name (i := 5) nd rfl (.inl rfl)) pgs_nil))) (all_lt rfl) rfl rfl) ?_
  refine s_seq (s_set (i := 6) (d := .tup (inz (toldM a k (valueAt a.se.p (polyM a k r l) a.num)))) nd rfl (.inr rfl) (lt_ rfl) (x_meth c.cl c_told (hr.mono (by decide)) (x_of (pv 0) rfl) (f_no (by decide +kernel) a) (a_cons (x_of (pv 1) rfl) (a_cons (x_call (d := .int (valueAt a.se.p (polyM a k r l) a.num)) c_value_at (hr.mono (by decide)) (a_cons (x_ixt (x_of (pv 3) rfl) x_int rfl) (a_cons (x_meth (d := .tup (inz (polyM a k r l))) c.cl c_poly (hr.mono (by decide)) (x_of (pv 0) rfl) (f_no (by decide +kernel) a) (a_cons (x_of (pv 1) rfl) (a_cons (x_of (pv 2) rfl) a_nil)) ⟨rfl, a, k, r, l, rfl, ok, hk, ht, hl, hg, rfl⟩) (a_cons (x_of (pv 5) rfl) a_nil))) ⟨rfl, a.se.p, _, _, rfl, ⟨by omega, by omega⟩, rfl⟩) a_nil)) ⟨rfl, a, k, _, rfl, ok, hkl, hc, rfl⟩) rfl) ?_
  refine ss_ifl (t_is (t_cmp op_eq rd_eqS (x_ixt (x_ixt (x_ixt (x_of (pv 4) rfl) x_int rfl) (x_of (pv 1) rfl) (rows_at hk)) x_int (at0 _ _)) x_str (nomark _)) (k_is8 _)) (fun h8 => ?_) (fun h8 => ?_)
  · cases r with
    | kept u =>
      have l2 : l.length = 1 := hl
      refine s_one (s_ret (x_eq (x_mod (show (0 : Int) < a.se.p by omega) (x_inti rfl B.int (x_add (x_sumT rfl rfl B.sum (x_of (pv 6) rfl)) (x_ix (o_l (o_lst (x_of (pv 2) rfl))) x_int (inz_at (i := 0) (by omega))))) (x_ixt (x_of (pv 3) rfl) x_int rfl)) ?_))
      unfold joinedM; rw [if_pos hc]; rfl
    | _ => exact absurd h8 (by simp [Row.tag])
  have hw := weightsM_range (show 0 < a.se.p by omega) (pts a.se.n) 0
  have tl : (toldM a k (valueAt a.se.p (polyM a k r l) a.num)).length = a.se.n := by unfold toldM; rw [List.length_map, ptsN_len]
  refine s_one (s_ret (x_eq (x_mod (show (0 : Int) < a.se.p by omega) (x_inti rfl B.int (x_suml (l := List.range a.se.n) (g := fun i => (weightsM a.se.p (pts a.se.n) 0).getD i 0 * (toldM a k (valueAt a.se.p (polyM a k r l) a.num)).getD i 0) rfl rfl B.sum
    (x_lca (l := List.range a.se.n) (h := fun (i : Nat) => D.int (0 + ((i : Nat) : Int))) (fun i => D.int ((weightsM a.se.p (pts a.se.n) 0).getD i 0 * (toldM a k (valueAt a.se.p (polyM a k r l) a.num)).getD i 0)) (j := 7) rfl nd (lt_ rfl) (by rw [List.length_range]; omega) (i_s (i_rng1 (n := a.se.n) (by omega) rfl B.range (x_eq (x_len rfl B.len (o_tup (x_of (pv 6) rfl))) (by rw [inz_len, tl])))) (blkOk_by (N := N_Party__joined) (sc := defScope s_Party__joined) (by decide +kernel)) (fun _ _ _ _ _ => pg_name (i := 7) nd rfl (.inl rfl))
      (fun i hi _ _ _ _ _ => (x_mul (by have q := getD_range hw (show 0 < a.se.p by omega) i; exact .inl ⟨by omega, by omega⟩) (x_ixt (y_weighed c (x_of (pv 0) rfl)) (x_of (pv 7) rfl) (by rw [Int.zero_add]; exact inz_at (by rw [weightsM_len, pts_len]; exact List.mem_range.mp hi))) (x_ix (o_tup (x_of (pv 6) rfl)) (x_of (pv 7) rfl) (by rw [Int.zero_add]; exact inz_at (by rw [tl]; exact List.mem_range.mp hi)))))))) (x_ixt (x_of (pv 3) rfl) x_int rfl)) ?_))
  unfold joinedM; rw [if_pos hc]
  cases r <;> first | rfl | (simp [Row.tag] at ht h8; done)
end
end Un
set_option maxHeartbeats 4000000
namespace Un
open PySem L2
def ownPoly (a : Pa) (k : Nat) : List Int := a.inputs.getD (usedAt a.num a.rows k) 0 :: drawnAt a.se.t a.num a.rows a.coins k
def shareM (a : Pa) (k : Nat) (r : Row) (found : List (Option Int)) : Option Int := match r with
  | .inp j => if j = a.num then some (valueAt a.se.p (ownPoly a k) a.num) else (cameL a k).lookup j
  | .const c => some c
  | .out _ _ => none
  | .next => none
  | .prod u v => (neededM (.prod u v) found).bind fun l => joinedM a k (.prod u v) l
  | .kept u => (neededM (.kept u) found).bind fun l => joinedM a k (.kept u) l
  | r => (neededM r found).bind fun l => some (reckM a.se.p r l)
def FR (p : Int) (found : List (Option Int)) : Prop := ∀ z, some z ∈ found → 0 ≤ z ∧ z < p
theorem needed_some {p : Int} (hp : 0 < p) {r : Row} {found : List (Option Int)} {l : List Int} (h : neededM r found = some l) (hf : FR p found) : l.length = r.named.length ∧ Rg p l := by
  unfold neededM at h
  split at h
  · cases h
  · rename_i hc
    cases h
    refine ⟨by simp, fun z hz => ?_⟩
    obtain ⟨o, ho, rfl⟩ := List.mem_map.mp hz
    obtain ⟨x, hx, rfl⟩ := List.mem_map.mp ho
    rw [List.getD_eq_getElem?_getD]
    cases e : found[x]? with
    | none => exact ⟨Int.le_refl 0, hp⟩
    | some o =>
      cases o with
      | none => exact ⟨Int.le_refl 0, hp⟩
      | some z => exact hf z (List.mem_of_getElem? e)
def S_share (ds : List D) (d : D) : Prop := ∃ (a : Pa) (k : Nat) (r : Row) (found : List (Option Int)) (fd : D), ds = [a.d, .int (k : Int), fd] ∧ a.Ok ∧ a.rows[k]? = some r ∧ isFd fd found ∧ k ≤ found.length ∧ FR a.se.p found ∧ d = optD (shareM a k r found)
def shTo (a : Pa) : Nat → List (Option Int)
  | 0 => []
  | n + 1 => shTo a n ++ [(a.rows[n]?).bind fun r => shareM a n r (shTo a n)]
theorem shTo_len (a : Pa) : ∀ n, (shTo a n).length = n
  | 0 => rfl
  | n + 1 => by rw [shTo, List.length_append, shTo_len a n]; rfl
theorem lookup_in {c : Came} {i : Nat} {x : Int} (h : c.lookup i = some x) : (i, x) ∈ c := by
  obtain ⟨l1, l2, q1, _⟩ := List.lookup_eq_some_iff.mp h
  rw [q1]; simp
theorem shareM_inp {a : Pa} {k j : Nat} {found : List (Option Int)} : shareM a k (.inp j) found = if j = a.num then some (valueAt a.se.p (ownPoly a k) a.num) else (cameL a k).lookup j := rfl
theorem shareM_joined {a : Pa} {k : Nat} {r : Row} {found : List (Option Int)} (ht : r.tag = 4 ∨ r.tag = 8) : shareM a k r found = (neededM r found).bind fun l => joinedM a k r l := by
  cases r <;> first | rfl | (simp [Row.tag] at ht; done)
theorem shareM_reck {a : Pa} {k : Nat} {r : Row} {found : List (Option Int)} (ht : r.tag = 2 ∨ r.tag = 3 ∨ r.tag = 5) : shareM a k r found = (neededM r found).bind fun l => some (reckM a.se.p r l) := by
  cases r <;> first | rfl | (simp [Row.tag] at ht; done)
theorem shareM_range {a : Pa} (ok : a.Ok) {k : Nat} {r : Row} (hk : a.rows[k]? = some r) {found : List (Option Int)} {z : Int} (h : shareM a k r found = some z) : 0 ≤ z ∧ z < a.se.p := by
  have p2 := ok.se.p2
  have em : ∀ x : Int, 0 ≤ x % a.se.p ∧ x % a.se.p < a.se.p := fun x => ⟨Int.emod_nonneg _ (by omega), Int.emod_lt_of_pos _ (by omega)⟩
  have rk := (ok.rows.2 k r hk).2
  have jm : ∀ l r, joinedM a k r l = some z → 0 ≤ z ∧ z < a.se.p := by
    intro l r h
    unfold joinedM at h
    split at h
    · cases r <;> (cases h; exact em _)
    · cases h
  cases r with
  | inp j =>
    rw [shareM_inp] at h
    split at h
    · cases h; exact valueAt_range (by omega) _ _
    · exact (came_ok ok (rows_lt hk)).val _ (lookup_in h)
  | const c => cases h; exact rk
  | out _ _ => cases h
  | next => cases h
  | prod u v =>
    rw [shareM_joined (.inl rfl)] at h
    obtain ⟨l, _, h2⟩ := Option.bind_eq_some_iff.mp h
    exact jm l _ h2
  | kept u =>
    rw [shareM_joined (.inr rfl)] at h
    obtain ⟨l, _, h2⟩ := Option.bind_eq_some_iff.mp h
    exact jm l _ h2
  | sum u v =>
    rw [shareM_reck (.inl rfl)] at h
    obtain ⟨l, _, h2⟩ := Option.bind_eq_some_iff.mp h
    cases h2; exact em _
  | less u v =>
    rw [shareM_reck (.inr (.inl rfl))] at h
    obtain ⟨l, _, h2⟩ := Option.bind_eq_some_iff.mp h
    cases h2; exact em _
  | times u v =>
    rw [shareM_reck (.inr (.inr rfl))] at h
    obtain ⟨l, _, h2⟩ := Option.bind_eq_some_iff.mp h
    cases h2; exact em _
theorem shTo_range {a : Pa} (ok : a.Ok) : ∀ n, FR a.se.p (shTo a n)
  | 0, z, h => by simp [shTo] at h
  | n + 1, z, h => by
    rw [shTo] at h
    rcases List.mem_append.mp h with h | h
    · exact shTo_range ok n z h
    · have h := (List.mem_singleton.mp h).symm
      obtain ⟨r, h1, h2⟩ := Option.bind_eq_some_iff.mp h
      exact shareM_range ok h1 h2
def S_sharesP (ds : List D) (d : D) : Prop := ∃ a : Pa, ds = [a.d] ∧ a.Ok ∧ d = .tup ((shTo a a.rows.length).map optD)
def othersM (a : Pa) (r : Row) : List Nat := (ptsN a.se.n).filter fun j => sendsM r a.num j
def lettersM (a : Pa) (k : Nat) (r : Row) (found : List (Option Int)) : List (Nat × Int) := match r with
  | .inp j => (othersM a (.inp j)).map fun i => (i, (if j = a.num then sharesM a.se (ownPoly a k) else []).getD (i - 1) 0)
  | r => match neededM r found with
    | none => []
    | some l => if (othersM a r).length = 0 then [] else match r with
      | .out u v => (othersM a (.out u v)).map fun i => (i, l.getD 0 0)
      | r => (othersM a r).map fun i => (i, valueAt a.se.p (polyM a k r l) i)
def outD (num k : Nat) (x : Nat × Int) : D := .tup [.str "letter", .int (k : Int), .int (num : Int), .int (x.1 : Int), .int x.2]
def S_letters (ds : List D) (d : List D) : Prop := ∃ (a : Pa) (k : Nat) (r : Row) (found : List (Option Int)) (fd : D), ds = [a.d, .int (k : Int), fd] ∧ a.Ok ∧ a.rows[k]? = some r ∧ isFd fd found ∧ k ≤ found.length ∧ FR a.se.p found ∧ d = (lettersM a k r found).map (outD a.num k)
def madeTo (a : Pa) (found : List (Option Int)) (n : Nat) : List D := ((List.range n).map fun k => match a.rows[k]? with | some r => (lettersM a k r found).map (outD a.num k) | none => []).flatten
def S_made (ds : List D) (d : D) : Prop := ∃ a : Pa, ds = [a.d] ∧ a.Ok ∧ d = .tup (madeTo a (shTo a a.rows.length) a.rows.length)
theorem lettersM_len (a : Pa) (k : Nat) (r : Row) (found : List (Option Int)) : (lettersM a k r found).length ≤ a.se.n := by
  have h : (othersM a r).length ≤ a.se.n := by
    unfold othersM
    have := List.length_filter_le (fun j => sendsM r a.num j) (ptsN a.se.n)
    rwa [ptsN_len] at this
  have e : ∀ (l : List Nat) (f : Nat → Nat × Int), (l.map f).length ≤ a.se.n ↔ l.length ≤ a.se.n := fun l f => by rw [List.length_map]
  cases r with
  | inp j => exact (e _ _).mpr h
  | _ =>
    simp only [lettersM]
    split
    · exact Nat.zero_le _
    · split
      · exact Nat.zero_le _
      · exact (e _ _).mpr h
theorem madeTo_succ (a : Pa) (found : List (Option Int)) (n : Nat) {r : Row} (h : a.rows[n]? = some r) : madeTo a found (n + 1) = madeTo a found n ++ (lettersM a n r found).map (outD a.num n) := by
  unfold madeTo
  rw [List.range_succ, List.map_append, List.flatten_append]
  simp [h]
theorem madeTo_len (a : Pa) (found : List (Option Int)) : ∀ n, n ≤ a.rows.length → (madeTo a found n).length ≤ n * a.se.n
  | 0, _ => by simp [madeTo]
  | n + 1, hn => by
    have e : a.rows[n]? = some a.rows[n] := List.getElem?_eq_getElem (by omega)
    rw [madeTo_succ a found n e, List.length_append, List.length_map]
    have h1 := madeTo_len a found n (by omega)
    have h2 := lettersM_len a n a.rows[n] found
    rw [Nat.succ_mul]; omega
theorem sharesM_at {s : Se} {poly : List Int} {i : Nat} (h1 : 1 ≤ i) (h2 : i ≤ s.n) : (sharesM s poly).getD (i - 1) 0 = valueAt s.p poly i ∧ i - 1 < (sharesM s poly).length := by
  have hl : (sharesM s poly).length = s.n := by unfold sharesM; rw [List.length_map, pts_len]
  refine ⟨?_, by omega⟩
  have l : i - 1 < s.n := by omega
  rw [List.getD_eq_getElem?_getD]
  unfold sharesM pts
  rw [List.getElem?_map, List.getElem?_map, List.getElem?_range l]
  show valueAt s.p poly (1 + ((i - 1 : Nat) : Int)) = _
  rw [show (1 : Int) + ((i - 1 : Nat) : Int) = (i : Int) by omega]
theorem letters_nil {a : Pa} {k : Nat} {r : Row} {found : List (Option Int)} (h0 : ¬ r.tag = 0) (h : neededM r found = none ∨ (othersM a r).length = 0) : lettersM a k r found = [] := by
  cases r <;> first | (exact absurd rfl h0) | skip
  all_goals
    rcases h with h | h
    · simp only [lettersM, h]
    · simp only [lettersM, h, if_true]
      split <;> rfl
theorem letters_out {a : Pa} {k u v : Nat} {found : List (Option Int)} {l : List Int} (h : neededM (.out u v) found = some l) (h2 : ¬ (othersM a (.out u v)).length = 0) : lettersM a k (.out u v) found = (othersM a (.out u v)).map fun i => (i, l.getD 0 0) := by
  simp only [lettersM, h, if_neg h2]
theorem letters_pk {a : Pa} {k : Nat} {r : Row} {found : List (Option Int)} {l : List Int} (ht : r.tag = 4 ∨ r.tag = 8) (h : neededM r found = some l) (h2 : ¬ (othersM a r).length = 0) : lettersM a k r found = (othersM a r).map fun (i : Nat) => (i, valueAt a.se.p (polyM a k r l) ((i : Nat) : Int)) := by
  cases r <;> first | (simp [Row.tag] at ht; done) | simp only [lettersM, h, if_neg h2]
section
variable {P : Program} {w : World} {K : PySem.W.Frag} {mg : Str → Option Value} {base : Heap} {C : Addr} {g : Addr} {fd : FuncData}
theorem given_of {a : Pa} {k j : Nat} (hk : a.rows[k]? = some (.inp j)) (hj : j = a.num) : valD (genK (givenF a.num a.rows a.inputs) a.rows.length) (Sum.inl ((k : Nat) : Int)) = some (.int (a.inputs.getD (usedAt a.num a.rows k) 0)) := by
  rw [valD_genK, if_pos (rows_lt hk)]
  unfold givenF; rw [hk]
  show (if decide (j = a.num) = true then _ else _) = _
  rw [if_pos (decide_eq_true hj)]
theorem drawn_of {a : Pa} {k : Nat} {r : Row} (hk : a.rows[k]? = some r) (hm : mine a.num r = true) : valD (genK (drawnF a.se.t a.num a.rows a.coins) a.rows.length) (Sum.inl ((k : Nat) : Int)) = some (.tup (inz (drawnAt a.se.t a.num a.rows a.coins k))) := by
  rw [valD_genK, if_pos (rows_lt hk)]
  unfold drawnF; rw [hk]
  show (if mine a.num r = true then _ else _) = _
  rw [if_pos hm]
abbrev s_Party__share : Stmt := inClass (top 36) 15
abbrev N_Party__share : List Str := ["self", "k", "found", "setting", "program", "number", "row", "some"]
theorem sc_Party__share : FnScope N_Party__share ["self", "k", "found"] (defScope s_Party__share) := ⟨rfl, rfl, rfl, by decide +kernel, rfl, by decide +kernel, by decide +kernel⟩
theorem isN_ol (o : Option (List Int)) : isN (olD o) = o.isNone := by cases o <;> rfl
theorem ok_share (B : Bt mg) (c : Ca K C) (c_needed : Mtd P w K mg base C "_needed" 2 ["self", "k", "found"] (spD K C 3 S_needed)) (c_joined : Mtd P w K mg base C "_joined" 3 ["self", "k", "some"] (spD K C 3 S_joined)) (c_reckoned : Mtd P w K mg base C "_reckoned" 1 ["self", "row", "some"] (spD K C 3 S_reckoned))
    (c_shares_sharing : Glo P w K mg base "shares_sharing" 3 ["setting", "s", "coins"] (spD K C 3 S_shares)) (F : Fun K "_share" "Party._share" s_Party__share g fd) : FnOk P w K mg base CX0 4 g fd ["self", "k", "found"] (spD K C 3 S_share) := by
  refine fn_D F sc_Party__share rfl fun cdv A outer s H E G ds d hr hS => ?_
  obtain ⟨a, k, r, found, fd, rfl, ok, hk, hf, hl, hfr, rfl⟩ := hS
  have nd := sc_Party__share.nd
  have p2 := ok.se.p2
  have hkl := rows_lt hk
  have rok := ok.rows.2 k r hk
  refine s_seq (s_unpack (is := [3, 4, 5]) (δ1 := [.dat a.d, .dat (.int (k : Int)), .dat fd, .dat a.se.d, .dat (progD a.rows), .dat (.int (a.num : Int)), .no, .no]) rfl (x_eq (x_sl (y_own c (x_of (pv 0) rfl)) p_no (p_int x_int)) (congrArg D.tup (cut_own a))) (pgs_cons (pg_name (i := 3) nd rfl (.inl rfl)) (pgs_cons (pg_name (i := 4) nd rfl (.inl rfl)) (pgs_cons (pg_name (i := 5) nd rfl (.inl rfl)) pgs_nil))) (all_lt rfl) rfl rfl) ?_
  refine s_seq (s_set (i := 6) (d := r.d) nd rfl (.inl rfl) (lt_ rfl) (x_ixt (x_ixt (x_of (pv 4) rfl) x_int rfl) (x_of (pv 1) rfl) (rows_at hk)) rfl) ?_
  refine ss_ifl (t_is (t_cmp op_eq rd_eqS (x_ixt (x_of (pv 6) rfl) x_int (at0 _ _)) x_str (nomark _)) (k_is0 _)) (fun hc => ?_) (fun h0 => ?_)
  · cases r with
    | inp j =>
      refine ss_ifl (t_cmp op_ne rd_neI (x_ixt (x_of (pv 6) rfl) x_int rfl) (x_of (pv 5) rfl) (nomark _)) (fun hj => ?_) (fun hj => ?_)
      · have hj : ¬ j = a.num := by
          intro e; subst e; simp at hj
        refine s_one (s_ret (x_eq (x_dget1 (hu_of hr) (k := Sum.inl ((j : Nat) : Int)) (x_ixt (y_came c (x_of (pv 0) rfl)) (x_of (pv 1) rfl) (came_at ok hkl)) (x_ixt (x_of (pv 6) rfl) x_int rfl) ⟨rfl, rfl, rfl, rfl⟩) ?_))
        rw [valD_cam]
        rw [shareM_inp, if_neg hj]
        cases (cameL a k).lookup j <;> rfl
      · have hj : j = a.num := by
          have : (decide (((j : Nat) : Int) = (a.num : Int))) = true := by
            cases q : decide (((j : Nat) : Int) = (a.num : Int)) with
            | true => rfl
            | false => rw [q] at hj; cases hj
          have := of_decide_eq_true this
          omega
        have sm := sharesM_at (s := a.se) (poly := ownPoly a k) ok.n1 ok.n2
        have hd := @drawnAt_len a.se.t a.num a.rows a.coins k
        have := ok.se.tn; have := ok.se.n2; have hn1 := ok.n1
        refine s_one (s_ret (x_eq (x_ixt (x_call (d := .tup (inz (sharesM a.se (ownPoly a k)))) c_shares_sharing (hr.mono (by decide)) (a_cons (x_of (pv 3) rfl) (a_cons (x_dget (hu_of hr) (k := Sum.inl ((k : Nat) : Int)) (y_given c (x_of (pv 0) rfl)) (x_of (pv 1) rfl) (given_of hk hj)) (a_cons (x_dget (hu_of hr) (k := Sum.inl ((k : Nat) : Int)) (y_drawn c (x_of (pv 0) rfl)) (x_of (pv 1) rfl) (drawn_of hk (by unfold mine; exact decide_eq_true hj))) a_nil))) ⟨rfl, a.se, _, _, rfl, ok.se, by omega, rfl⟩) (x_eq (x_sub (x_of (pv 5) rfl) x_int) (d' := .int ((a.num - 1 : Nat) : Int)) (by congr 1; omega)) (inz_at sm.2)) ?_))
        rw [sm.1]
        rw [shareM_inp, if_pos hj]; rfl
    | _ => exact absurd hc (by simp [Row.tag])
  refine ss_ifl (t_is (t_cmp op_eq rd_eqS (x_ixt (x_of (pv 6) rfl) x_int (at0 _ _)) x_str (nomark _)) (k_is1 _)) (fun hc => ?_) (fun h1 => ?_)
  · cases r with
    | const z => exact s_one (s_ret (x_ixt (x_of (pv 6) rfl) x_int rfl))
    | _ => exact absurd hc (by simp [Row.tag])
  refine ss_ifl (t_is (t_in (x_ixt (x_of (pv 6) rfl) x_int (at0 _ _)) (o_tup (x_tup (a_cons x_str (a_cons x_str a_nil))))) (k_in67 _)) (fun hc => ?_) (fun h67 => ?_)
  · refine s_one (s_ret (x_eq x_non ?_))
    cases r <;> first | rfl | (simp [Row.tag] at hc; done)
  refine s_seq (s_set (i := 7) (d := olD (neededM r found)) nd rfl (.inl rfl) (lt_ rfl) (x_meth c.cl c_needed (hr.mono (by decide)) (x_of (pv 0) rfl) (f_no (by decide +kernel) a) (a_cons (x_of (pv 1) rfl) (a_cons (x_of (pv 2) rfl) a_nil)) ⟨rfl, a, k, r, found, fd, rfl, hk, hf, fun x hx => Nat.lt_of_lt_of_le (rok.1 x hx) hl, rfl⟩) rfl) ?_
  refine ss_ifl (t_is (t_isN (x_of (pv 7) rfl)) (isN_ol _)) (fun hc => ?_) (fun hn => ?_)
  · have hno : neededM r found = none := Option.isNone_iff_eq_none.mp hc
    refine s_one (s_ret (x_eq x_non ?_))
    have ht : (r.tag = 4 ∨ r.tag = 8) ∨ (r.tag = 2 ∨ r.tag = 3 ∨ r.tag = 5) := by
      cases r <;> first | (simp [Row.tag] at h0; done) | (simp [Row.tag] at h1; done) | (simp [Row.tag] at h67; done) | simp [Row.tag]
    rcases ht with ht | ht
    · rw [shareM_joined ht, hno]; rfl
    · rw [shareM_reck ht, hno]; rfl
  obtain ⟨l, hl2⟩ : ∃ l, neededM r found = some l := by
    cases q : neededM r found with
    | none => rw [q] at hn; cases hn
    | some l => exact ⟨l, rfl⟩
  obtain ⟨q1, q2⟩ := needed_some (by omega) hl2 hfr
  refine ss_ifl (t_is (t_in (x_ixt (x_of (pv 6) rfl) x_int (at0 _ _)) (o_tup (x_tup (a_cons x_str (a_cons x_str a_nil))))) (k_in48 _)) (fun hc => ?_) (fun h48 => ?_)
  · refine s_one (s_ret (x_eq (x_meth (d := optD (joinedM a k r l)) c.cl c_joined (hr.mono (by decide)) (x_of (pv 0) rfl) (f_no (by decide +kernel) a) (a_cons (x_of (pv 1) rfl) (a_cons (x_eq (x_of (pv 7) rfl) (d' := .lst (inz l)) (by rw [hl2]; rfl)) a_nil)) ⟨rfl, a, k, r, l, rfl, ok, hk, of_decide_eq_true hc, q1, q2, rfl⟩) ?_))
    rw [shareM_joined (of_decide_eq_true hc), hl2]; rfl
  · have ht : r.tag = 2 ∨ r.tag = 3 ∨ r.tag = 5 := by
      cases r <;> first | (simp [Row.tag] at h0; done) | (simp [Row.tag] at h1; done) | (simp [Row.tag] at h67; done) | (simp [Row.tag] at h48; done) | simp [Row.tag]
    refine s_one (s_ret (x_eq (x_meth (d := .int (reckM a.se.p r l)) c.cl c_reckoned (hr.mono (by decide)) (x_of (pv 0) rfl) (f_no (by decide +kernel) a) (a_cons (x_of (pv 6) rfl) (a_cons (x_eq (x_of (pv 7) rfl) (d' := .lst (inz l)) (by rw [hl2]; rfl)) a_nil)) ⟨rfl, a, k, r, l, rfl, ok.se, rok, ht, q1, q2, rfl⟩) ?_))
    rw [shareM_reck ht, hl2]; rfl
abbrev s_Party_shares : Stmt := inClass (top 36) 5
abbrev N_Party_shares : List Str := ["self", "found", "k"]
theorem sc_Party_shares : FnScope N_Party_shares ["self"] (defScope s_Party_shares) := ⟨rfl, rfl, rfl, by decide +kernel, rfl, by decide +kernel, by decide +kernel⟩
theorem flat_opt (o : Option Int) : flatD (optD o) = true := by cases o <;> rfl
theorem ok_sharesP (B : Bt mg) (c : Ca K C) (c_share : Mtd P w K mg base C "_share" 4 ["self", "k", "found"] (spD K C 3 S_share)) (F : Fun K "shares" "Party.shares" s_Party_shares g fd) : FnOk P w K mg base CX0 5 g fd ["self"] (spD K C 1 S_sharesP) := by
  refine fn_D F sc_Party_shares rfl fun cdv A outer s H E G ds d hr hS => ?_
  obtain ⟨a, rfl, ok, rfl⟩ := hS
  have nd := sc_Party_shares.nd
  have hz := ok.rows.1
  refine s_seq (s_setN (i := 1) nd rfl (.inl rfl) (lt_ rfl) (x_lst a_nil) rfl) ?_
  refine s_cons (N1 := fun e => ∃ v, e = [.dat a.d, .own ((shTo a a.rows.length).map optD), v]) (s_forr (n := (a.rows.map Row.d).length) (j := 2) (fun i e => ∃ v, e = [.dat a.d, .own ((shTo a i).map optD), v]) PassesOwn.never rfl (i_rng1 (by rw [List.length_map]; omega) rfl B.range (x_len rfl B.len (o_tup (x_ixt (x_ixt (y_own c (x_of (pv 0) rfl)) x_int rfl) x_int rfl)))) (pg_name (i := 2) nd rfl (.inl rfl)) ?_ ?_ ?_ ?_) ?_
  · exact ⟨.no, rfl⟩
  · rintro i _ ⟨v, rfl⟩; exact lt_ rfl
  · rintro i _ hi ⟨v, rfl⟩
    rw [List.length_map] at hi
    rw [Int.zero_add]
    have hk : a.rows[i]? = some a.rows[i] := List.getElem?_eq_getElem hi
    refine s_one (s_weak (s_app (d := optD (shareM a i a.rows[i] (shTo a i))) (pv 1) rfl (lt_ rfl) (by rw [List.length_map, shTo_len]; omega) (x_meth1o c.cl c_share (hr.mono (by decide)) (x_of (pv 0) rfl) (f_no (by decide +kernel) a) (x_of (pv 2) rfl) (pv 1) rfl ⟨a, i, _, _, _, rfl, ok, hk, .inr rfl, by rw [shTo_len]; exact Nat.le_refl _, shTo_range ok i, rfl⟩ (flat_opt _)) rfl) ?_)
    rintro _ rfl
    refine ⟨.dat (.int ((i : Nat) : Int)), ?_⟩
    rw [shTo, hk, List.map_append]; rfl
  · rintro _ h; rw [List.length_map] at h; exact h
  · rintro _ ⟨v, rfl⟩
    exact s_one (s_ret (x_tuple rfl B.tuple (o_own (pv 1) rfl)))
abbrev s_Party__letters : Stmt := inClass (top 36) 18
abbrev N_Party__letters : List Str := ["self", "k", "found", "setting", "program", "number", "others", "row", "numbers", "some", "poly", "party"]
theorem sc_Party__letters : FnScope N_Party__letters ["self", "k", "found"] (defScope s_Party__letters) := ⟨rfl, rfl, rfl, by decide +kernel, rfl, by decide +kernel, by decide +kernel⟩
theorem ok_letters (B : Bt mg) (c : Ca K C) (c_parties : Glo P w K mg base "parties" 1 ["setting"] (spD K C 1 S_parties)) (c_sends : Glo P w K mg base "sends" 1 ["setting", "program", "k", "i", "j"] (spD K C 5 S_sends)) (c_shares_sharing : Glo P w K mg base "shares_sharing" 3 ["setting", "s", "coins"] (spD K C 3 S_shares))
    (c_needed : Mtd P w K mg base C "_needed" 2 ["self", "k", "found"] (spD K C 3 S_needed)) (c_poly : Mtd P w K mg base C "_poly" 1 ["self", "k", "some"] (spD K C 3 S_poly)) (c_value_at : Glo P w K mg base "value_at" 1 ["p", "poly", "x"] (spD K C 3 S_value_at))
    (F : Fun K "_letters" "Party._letters" s_Party__letters g fd) : FnOk P w K mg base CX0 4 g fd ["self", "k", "found"] (spN K C 3 S_letters) := by
  refine fn_N F sc_Party__letters rfl fun cdv A outer s H E G ds d hr hS => ?_
  obtain ⟨a, k, r, found, fd, rfl, ok, hk, hf, hl, hfr, rfl⟩ := hS
  have nd := sc_Party__letters.nd
  have p2 := ok.se.p2; have p3 := ok.se.p3; have n2 := ok.se.n2
  have hkl := rows_lt hk
  have rok := ok.rows.2 k r hk
  have hol : (othersM a r).length ≤ 5 := by
    unfold othersM
    have := List.length_filter_le (fun j => sendsM r a.num j) (ptsN a.se.n)
    rw [ptsN_len] at this; omega
  refine s_seq (s_unpack (is := [3, 4, 5]) (δ1 := [.dat a.d, .dat (.int (k : Int)), .dat fd, .dat a.se.d, .dat (progD a.rows), .dat (.int (a.num : Int)), .no, .no, .no, .no, .no, .no]) rfl (x_eq (x_sl (y_own c (x_of (pv 0) rfl)) p_no (p_int x_int)) (congrArg D.tup (cut_own a))) (pgs_cons (pg_name (i := 3) nd rfl (.inr rfl)) (pgs_cons (pg_name (i := 4) nd rfl (.inr rfl)) (pgs_cons (pg_name (i := 5) nd rfl (.inr rfl)) pgs_nil))) (all_lt rfl) rfl rfl) ?_
  refine s_seq (s_setLcm (i := 6) (l := ptsN a.se.n) (h := fun (j : Nat) => D.int ((j : Nat) : Int)) (fun j => sendsM r a.num j) (fun (j : Nat) => D.int ((j : Nat) : Int)) (δ1 := [.dat a.d, .dat (.int (k : Int)), .dat fd, .dat a.se.d, .dat (progD a.rows), .dat (.int (a.num : Int)), .own ((othersM a r).map fun (j : Nat) => D.int ((j : Nat) : Int)), .no, .no, .no, .no, .no]) (j := 11) rfl nd rfl rfl (lt_ rfl) (lt_ rfl) (by rw [ptsN_len]; omega) (sw_true rfl rfl rfl (by decide +kernel)) (i_s (i_tup (x_eq (x_call c_parties (hr.mono (by decide)) (a_cons (x_of (pv 3) rfl) a_nil) ⟨rfl, a.se, rfl, ok.se, rfl⟩) (congrArg D.tup (pts_nat _))))) (blkOk_by (N := N_Party__letters) (sc := defScope s_Party__letters) (by decide +kernel)) (fun _ _ _ _ _ => pg_name (i := 11) nd rfl (.inl rfl))
      (fun j hj _ _ _ _ _ => ts_one (t_val (x_call c_sends (hr.mono (by decide)) (a_cons (x_of (pv 3) rfl) (a_cons (x_of (pv 4) rfl) (a_cons (x_of (pv 1) rfl) (a_cons (x_of (pv 5) rfl) (a_cons (x_of (pv 11) rfl) a_nil))))) ⟨rfl, a.se, a.rows, k, a.num, j, r, rfl, hk, rfl⟩)))
      (fun j hj hb _ _ _ _ _ => (x_of (pv 11) rfl)) rfl) ?_
  refine s_seq (s_set (i := 7) (d := r.d) nd rfl (.inl rfl) (lt_ rfl) (x_ixt (x_ixt (x_of (pv 4) rfl) x_int rfl) (x_of (pv 1) rfl) (rows_at hk)) rfl) ?_
  have mem_o : ∀ j ∈ othersM a r, (1 ≤ j ∧ j ≤ a.se.n) ∧ sendsM r a.num j = true := fun j hj => by
    obtain ⟨h1, h2⟩ := List.mem_filter.mp hj
    exact ⟨mem_ptsN.mp h1, h2⟩
  refine ss_ifl (t_is (t_cmp op_eq rd_eqS (x_ixt (x_of (pv 7) rfl) x_int (at0 _ _)) x_str (nomark _)) (k_is0 _)) (fun hc => ?_) (fun h0 => ?_)
  · cases r with
    | inp j =>
      have hd := @drawnAt_len a.se.t a.num a.rows a.coins k
      have := ok.se.tn
      refine s_seq (s_set (i := 8) (d := .tup (inz (if j = a.num then sharesM a.se (ownPoly a k) else []))) nd rfl (.inr rfl) (lt_ rfl) (x_if (t_is (t_cmp op_eq rd_eqI (x_ixt (x_of (pv 7) rfl) x_int rfl) (x_of (pv 5) rfl) (nomark _)) (dec_nat j a.num))
        (fun hj => x_eq (x_call (d := .tup (inz (sharesM a.se (ownPoly a k)))) c_shares_sharing (hr.mono (by decide)) (a_cons (x_of (pv 3) rfl) (a_cons (x_dget (hu_of hr) (k := Sum.inl ((k : Nat) : Int)) (y_given c (x_of (pv 0) rfl)) (x_of (pv 1) rfl) (given_of hk (of_decide_eq_true hj))) (a_cons (x_dget (hu_of hr) (k := Sum.inl ((k : Nat) : Int)) (y_drawn c (x_of (pv 0) rfl)) (x_of (pv 1) rfl) (drawn_of hk (by unfold mine; exact hj))) a_nil))) ⟨rfl, a.se, _, _, rfl, ok.se, by omega, rfl⟩) (by rw [if_pos (of_decide_eq_true hj)]))
        (fun hj => x_eq (x_tup a_nil) (by rw [if_neg (of_decide_eq_false hj)]; rfl))) rfl) ?_
      have e : (lettersM a k (.inp j) found).map (outD a.num k) = (othersM a (.inp j)).map fun i => outD a.num k (i, (if j = a.num then sharesM a.se (ownPoly a k) else []).getD (i - 1) 0) := by unfold lettersM; rw [List.map_map]; rfl
      rw [e]
      refine s_one (s_retN (x_lca (l := othersM a (.inp j)) (h := fun (j : Nat) => D.int ((j : Nat) : Int)) (fun i => outD a.num k (i, (if j = a.num then sharesM a.se (ownPoly a k) else []).getD (i - 1) 0)) (j := 11) rfl nd (lt_ rfl) (by omega) (i_own (pv 6) rfl) (blkOk_by (N := N_Party__letters) (sc := defScope s_Party__letters) (by decide +kernel)) (fun _ _ _ _ _ => pg_name (i := 11) nd rfl (.inl rfl))
        (fun i hi _ _ _ _ _ => (x_tup (a_cons x_str (a_cons (x_of (pv 1) rfl) (a_cons (x_of (pv 5) rfl) (a_cons (x_of (pv 11) rfl) (a_cons (x_ixt (x_of (pv 8) rfl) (x_eq (x_sub (x_of (pv 11) rfl) x_int) (d' := .int ((i - 1 : Nat) : Int)) ?_) (inz_at ?_)) a_nil)))))))))
      · have := (mem_o i hi).1
        congr 1; omega
      · obtain ⟨m1, m2⟩ := mem_o i hi
        have hj : j = a.num := by
          unfold sendsM at m2
          split at m2
          · cases m2
          · exact of_decide_eq_true m2
        rw [if_pos hj]
        exact (sharesM_at m1.1 m1.2).2
    | _ => exact absurd hc (by simp [Row.tag])
  refine s_seq (s_set (i := 9) (d := olD (neededM r found)) nd rfl (.inr rfl) (lt_ rfl) (x_meth c.cl c_needed (hr.mono (by decide)) (x_of (pv 0) rfl) (f_no (by decide +kernel) a) (a_cons (x_of (pv 1) rfl) (a_cons (x_of (pv 2) rfl) a_nil)) ⟨rfl, a, k, r, found, fd, rfl, hk, hf, fun x hx => Nat.lt_of_lt_of_le (rok.1 x hx) hl, rfl⟩) rfl) ?_
  have hlen : (List.map (fun (j : Nat) => D.int ((j : Nat) : Int)) (othersM a r)).length = (othersM a r).length := List.length_map ..
  refine ss_ifl (t_is (PW.pt (w_or (t_is (t_isN (x_of (pv 9) rfl)) (isN_ol _)) fun hc => (w_or1 (t_is (t_cmp op_eq rd_eqI (x_len rfl B.len (o_l (o_own (pv 6) rfl))) x_int (nomark _)) (dec_nat _ 0))))) (show _ = ((neededM r found).isNone || decide ((othersM a r).length = 0)) by rw [hlen])) (fun hc => ?_) (fun hn => ?_)
  · have e : lettersM a k r found = [] := letters_nil (of_decide_eq_false h0) (by
      rcases Bool.or_eq_true_iff.mp hc with h | h
      · exact .inl (Option.isNone_iff_eq_none.mp h)
      · exact .inr (of_decide_eq_true h))
    rw [e]
    exact s_one (s_retN (x_lst a_nil))
  obtain ⟨h1, h2⟩ := Bool.or_eq_false_iff.mp hn
  have h2 : ¬ (othersM a r).length = 0 := of_decide_eq_false h2
  obtain ⟨l, hl2⟩ : ∃ l, neededM r found = some l := by
    cases q : neededM r found with
    | none => rw [q] at h1; cases h1
    | some l => exact ⟨l, rfl⟩
  obtain ⟨q1, q2⟩ := needed_some (by omega) hl2 hfr
  refine ss_ifl (t_is (t_cmp op_eq rd_eqS (x_ixt (x_of (pv 7) rfl) x_int (at0 _ _)) x_str (nomark _)) (k_is6 _)) (fun hc => ?_) (fun h6 => ?_)
  · cases r with
    | out u v =>
      have e : (lettersM a k (.out u v) found).map (outD a.num k) = (othersM a (.out u v)).map fun i => outD a.num k (i, l.getD 0 0) := by
        rw [letters_out hl2 h2, List.map_map]; rfl
      rw [e]
      have l1 : l.length = 1 := q1
      exact s_one (s_retN (x_lca (l := othersM a (.out u v)) (h := fun (j : Nat) => D.int ((j : Nat) : Int)) (fun i => outD a.num k (i, l.getD 0 0)) (j := 11) rfl nd (lt_ rfl) (by omega) (i_own (pv 6) rfl) (blkOk_by (N := N_Party__letters) (sc := defScope s_Party__letters) (by decide +kernel)) (fun _ _ _ _ _ => pg_name (i := 11) nd rfl (.inl rfl))
        (fun i hi _ _ _ _ _ => (x_tup (a_cons x_str (a_cons (x_of (pv 1) rfl) (a_cons (x_of (pv 5) rfl) (a_cons (x_of (pv 11) rfl) (a_cons (x_ix (o_l (o_lst (x_eq (x_of (pv 9) rfl) (d' := .lst (inz l)) (by rw [hl2]; rfl)))) x_int (inz_at (i := 0) (by omega))) a_nil)))))))))
    | _ => exact absurd hc (by simp [Row.tag])
  have ht : r.tag = 4 ∨ r.tag = 8 := by
    cases r <;> first | (simp [Row.tag] at h0; done) | (simp [Row.tag] at h6; done) | (exact .inl rfl) | (exact .inr rfl) | skip
    all_goals
      exfalso
      apply h2
      unfold othersM
      rw [List.filter_eq_nil_iff.mpr (fun j _ => by unfold sendsM; split <;> simp)]
      rfl
  have e : (lettersM a k r found).map (outD a.num k) = (othersM a r).map fun i => outD a.num k (i, valueAt a.se.p (polyM a k r l) i) := by
    rw [letters_pk ht hl2 h2, List.map_map]; rfl
  rw [e]
  refine s_seq (s_set (i := 10) (d := .tup (inz (polyM a k r l))) nd rfl (.inr rfl) (lt_ rfl) (x_meth c.cl c_poly (hr.mono (by decide)) (x_of (pv 0) rfl) (f_no (by decide +kernel) a) (a_cons (x_of (pv 1) rfl) (a_cons (x_eq (x_of (pv 9) rfl) (d' := .lst (inz l)) (by rw [hl2]; rfl)) a_nil)) ⟨rfl, a, k, r, l, rfl, ok, hk, ht, q1, q2, rfl⟩) rfl) ?_
  exact s_one (s_retN (x_lca (l := othersM a r) (h := fun (j : Nat) => D.int ((j : Nat) : Int)) (fun i => outD a.num k (i, valueAt a.se.p (polyM a k r l) i)) (j := 11) rfl nd (lt_ rfl) (by omega) (i_own (pv 6) rfl) (blkOk_by (N := N_Party__letters) (sc := defScope s_Party__letters) (by decide +kernel)) (fun _ _ _ _ _ => pg_name (i := 11) nd rfl (.inl rfl))
    (fun i hi _ _ _ _ _ => (x_tup (a_cons x_str (a_cons (x_of (pv 1) rfl) (a_cons (x_of (pv 5) rfl) (a_cons (x_of (pv 11) rfl) (a_cons (x_call c_value_at (hr.mono (by decide)) (a_cons (x_ixt (x_of (pv 3) rfl) x_int rfl) (a_cons (x_of (pv 10) rfl) (a_cons (x_of (pv 11) rfl) a_nil))) ⟨rfl, a.se.p, _, _, rfl, ⟨by omega, by omega⟩, rfl⟩) a_nil)))))))))
abbrev s_Party_made : Stmt := inClass (top 36) 6
abbrev N_Party_made : List Str := ["self", "found", "letters", "k"]
theorem sc_Party_made : FnScope N_Party_made ["self"] (defScope s_Party_made) := ⟨rfl, rfl, rfl, by decide +kernel, rfl, by decide +kernel, by decide +kernel⟩
theorem ok_made (B : Bt mg) (c : Ca K C) (c_shares : Prp P w K mg base C "shares" 5 (spD K C 1 S_sharesP)) (c_letters : Mtd P w K mg base C "_letters" 4 ["self", "k", "found"] (spN K C 3 S_letters)) (F : Fun K "made" "Party.made" s_Party_made g fd) :
    FnOk P w K mg base CX0 7 g fd ["self"] (spD K C 1 S_made) := by
  refine fn_D F sc_Party_made rfl fun cdv A outer s H E G ds d hr hS => ?_
  obtain ⟨a, rfl, ok, rfl⟩ := hS
  have nd := sc_Party_made.nd
  have hz := ok.rows.1; have n2 := ok.se.n2
  refine s_seq (s_set (i := 1) (d := .tup ((shTo a a.rows.length).map optD)) nd rfl (.inl rfl) (lt_ rfl) (x_prop c.cl c_shares hr (x_of (pv 0) rfl) ⟨a, rfl, ok, rfl⟩) rfl) ?_
  refine s_seq (s_setN (i := 2) nd rfl (.inl rfl) (lt_ rfl) (x_lst a_nil) rfl) ?_
  have hl : ((shTo a a.rows.length).map optD).length = a.rows.length := by rw [List.length_map, shTo_len]
  refine s_cons (N1 := fun e => ∃ v, e = [.dat a.d, .dat (.tup ((shTo a a.rows.length).map optD)), .own (madeTo a (shTo a a.rows.length) a.rows.length), v])
    (s_forr (n := ((shTo a a.rows.length).map optD).length) (j := 3) (fun i e => ∃ v, e = [.dat a.d, .dat (.tup ((shTo a a.rows.length).map optD)), .own (madeTo a (shTo a a.rows.length) i), v]) PassesOwn.never rfl (i_rng1 (by rw [hl]; omega) rfl B.range (x_len rfl B.len (o_tup (x_of (pv 1) rfl)))) (pg_name (i := 3) nd rfl (.inl rfl)) ?_ ?_ ?_ ?_) ?_
  · exact ⟨.no, rfl⟩
  · rintro i _ ⟨v, rfl⟩; exact lt_ rfl
  · rintro i _ hi ⟨v, rfl⟩
    rw [hl] at hi
    rw [Int.zero_add]
    have hk : a.rows[i]? = some a.rows[i] := List.getElem?_eq_getElem hi
    have ml := madeTo_len a (shTo a a.rows.length) i (by omega)
    have ll := lettersM_len a i a.rows[i] (shTo a a.rows.length)
    have : i * a.se.n ≤ 60 * 5 := Nat.mul_le_mul (by omega) n2
    refine s_one (s_weak (s_ext (es := (lettersM a i a.rows[i] (shTo a a.rows.length)).map (outD a.num i)) (pv 2) rfl (lt_ rfl) (by rw [List.length_map]; omega) (q_new (x_methN c.cl c_letters (hr.mono (by decide)) (x_of (pv 0) rfl) (f_no (by decide +kernel) a) (a_cons (x_of (pv 3) rfl) (a_cons (x_of (pv 1) rfl) a_nil)) ⟨rfl, a, i, _, _, _, rfl, ok, hk, .inl rfl, by rw [shTo_len]; omega, shTo_range ok _, rfl⟩)) rfl) ?_)
    rintro _ rfl
    refine ⟨.dat (.int ((i : Nat) : Int)), ?_⟩
    rw [madeTo_succ _ _ _ hk]; rfl
  · rintro _ h; rw [hl] at h; exact h
  · rintro _ ⟨v, rfl⟩
    exact s_one (s_ret (x_tuple rfl B.tuple (o_own (pv 2) rfl)))
end
end Un
set_option maxHeartbeats 4000000
/-! Un: a party under way. -/
namespace Un
open PySem L2
def camV (c : Came) : List (Key × V) := c.map fun x => ((Sum.inl ((x.1 : Nat) : Int) : Key), V.int x.2)
def Pa.fs5 (a : Pa) : List (Str × D) := [("_own", .tup [a.se.d, progD a.rows, .int (a.num : Int), .tup (inz a.inputs), .tup (inz a.coins)]),
  ("_given", .dic (genK (givenF a.num a.rows a.inputs) a.rows.length)), ("_drawn", .dic (genK (drawnF a.se.t a.num a.rows a.coins) a.rows.length)),
  ("_weighed", .tup (inz (weightsM a.se.p (pts a.se.n) 0))), ("_took", .tup (a.took.map (letD a.num)))]
section
variable {K : PySem.W.Frag} {C : Addr} {G H G' H' : Hp}
theorem cam_dat : ∀ c : Came, Datk K C G (camD c) (camV c)
  | [] => datk_nil
  | _ :: c => datk_cons dat_int (cam_dat c)
theorem Datf.app : ∀ {ds es : List (Str × D)} {xs ys : List (Str × V)}, Datf K C G ds xs → Datf K C G es ys → Datf K C G (ds ++ es) (xs ++ ys)
  | [], _, _, _, h, k => by rw [h.inv0]; exact k
  | (j, d) :: ds, _, _, _, h, k => by
    obtain ⟨x, r, rfl, h1, h2⟩ := h.inv
    exact datf_cons h1 (Datf.app h2 k)
theorem dats_cam : ∀ (l : List Came) (cs : List Addr), cs.length = l.length → (∀ k c, cs[k]? = some c → G c = some (.dK (camV (l.getD k [])))) → Dats K C G (l.map fun c => .dic (camD c)) (cs.map V.ref)
  | [], [], _, _ => dats_nil
  | [], _ :: _, h, _ => by simp at h
  | _ :: _, [], h, _ => by simp at h
  | m :: l, c :: cs, h, q => dats_cons (dat_dic (q 0 c rfl) (cam_dat m)) (dats_cam l cs (by simpa using h) fun k d e => q (k + 1) d e)
/-- a party at p, its dicts at cs, beside the region -/
structure OwnP (K : PySem.W.Frag) (C : Addr) (G H : Hp) (p : Addr) (cs : List Addr) (a : Pa) : Prop where
  ins : ∃ dx ys tc, H p = some (.ins C dx (ys ++ [(("_came" : Str), V.ref tc)])) ∧ Datf K C G a.fs5 ys ∧ SqT K G tc (cs.map V.ref)
  gp : G p = none
  len : cs.length = a.came.length
  nd : cs.Nodup
  dic : ∀ (k : Nat) c, cs[k]? = some c → H c = some (.dK (camV (a.came.getD k []))) ∧ G c = none
def ext (G H : Hp) (p : Addr) (cs : List Addr) : Hp := fun x => if x = p ∨ x ∈ cs then H x else G x
def thin (G : Hp) (p : Addr) (cs : List Addr) : Hp := fun x => if x = p ∨ x ∈ cs then none else G x
theorem ext_in {p : Addr} {cs : List Addr} {x : Addr} (h : x = p ∨ x ∈ cs) : ext G H p cs x = H x := if_pos h
theorem ext_out {p : Addr} {cs : List Addr} {x : Addr} (h : ¬ (x = p ∨ x ∈ cs)) : ext G H p cs x = G x := if_neg h
theorem thin_in {p : Addr} {cs : List Addr} {x : Addr} (h : x = p ∨ x ∈ cs) : thin G p cs x = none := if_pos h
theorem thin_out {p : Addr} {cs : List Addr} {x : Addr} (h : ¬ (x = p ∨ x ∈ cs)) : thin G p cs x = G x := if_neg h
theorem OwnP.gx {p : Addr} {cs : List Addr} {a : Pa} (o : OwnP K C G H p cs a) {x : Addr} (h : x = p ∨ x ∈ cs) : G x = none := by
  rcases h with h | h
  · rw [h]; exact o.gp
  · obtain ⟨k, e⟩ := List.mem_iff_getElem?.mp h
    exact (o.dic k x e).2
theorem OwnP.hx {p : Addr} {cs : List Addr} {a : Pa} (o : OwnP K C G H p cs a) {x : Addr} (h : x = p ∨ x ∈ cs) : H x ≠ none := by
  rcases h with h | h
  · obtain ⟨_, _, _, e, _⟩ := o.ins
    rw [h, e]; exact fun z => by cases z
  · obtain ⟨k, e⟩ := List.mem_iff_getElem?.mp h
    rw [(o.dic k x e).1]; exact fun z => by cases z
theorem OwnP.sub {p : Addr} {cs : List Addr} {a : Pa} (o : OwnP K C G H p cs a) : Sub G (ext G H p cs) := fun x u e => by
  by_cases h : x = p ∨ x ∈ cs
  · rw [o.gx h] at e; cases e
  · rw [ext_out h]; exact e
theorem ext_sub {p : Addr} {cs : List Addr} (s : Sub G H) : Sub (ext G H p cs) H := fun x u e => by
  by_cases h : x = p ∨ x ∈ cs
  · rw [ext_in h] at e; exact e
  · rw [ext_out h] at e; exact s x u e
theorem Pa.fs_eq (a : Pa) : a.fs = a.fs5 ++ [(("_came" : Str), D.tup (a.came.map fun c => .dic (camD c)))] := rfl
/-- as data -/
theorem OwnP.dat {p : Addr} {cs : List Addr} {a : Pa} (o : OwnP K C G H p cs a) : Dat K C (ext G H p cs) a.d (.ref p) := by
  obtain ⟨dx, ys, tc, e, z, q⟩ := o.ins
  refine dat_obj (dx := dx) (xs := ys ++ [(("_came" : Str), V.ref tc)]) (by rw [ext_in (.inl rfl)]; exact e) ?_
  rw [Pa.fs_eq]
  refine Datf.app (z.mono o.sub) (datf_cons (dat_tup (o.sub.sqT q) (dats_cam _ _ o.len fun k c h => ?_)) datf_nil)
  rw [ext_in (.inr (List.mem_of_getElem? h))]
  exact (o.dic k c h).1
/-! data without dicts and parties -/
mutual
def thinD : D → Bool
  | .tup ds => thinDs ds
  | .lst ds => thinDs ds
  | .dic _ => false
  | .obj _ => false
  | _ => true
def thinDs : List D → Bool
  | [] => true
  | d :: ds => thinD d && thinDs ds
end
def nIC : HO → Prop
  | .ins _ _ _ => False
  | .dK _ => False
  | _ => True
theorem sqT_thin (h : ∀ a o, G a = some o → nIC o → G' a = some o) {a : Addr} {xs : List V} (s : SqT K G a xs) : SqT K G' a xs := by
  rcases s with s | s
  · refine .inl ?_
    rcases s with s | ⟨o, s⟩
    · exact .inl (h _ _ s True.intro)
    · exact .inr ⟨o, h _ _ s True.intro⟩
  · exact .inr s
theorem sqL_thin (h : ∀ a o, G a = some o → nIC o → G' a = some o) {a : Addr} {xs : List V} (s : SqL K G a xs) : SqL K G' a xs := by
  rcases s with s | s
  · refine .inl ?_
    rcases s with s | ⟨o, s⟩
    · exact .inl (h _ _ s True.intro)
    · exact .inr ⟨o, h _ _ s True.intro⟩
  · exact .inr s
mutual
theorem Dat.thin (h : ∀ a o, G a = some o → nIC o → G' a = some o) : ∀ {d : D} {v : V}, thinD d = true → Dat K C G d v → Dat K C G' d v
  | .non, _, _, z => by rw [z.non_inv]; exact dat_non
  | .bl b, _, _, z => by rw [z.bl_inv]; exact dat_bl
  | .int i, _, _, z => by rw [z.int_inv]; exact dat_int
  | .str s, _, _, z => by rw [z.str_inv]; exact dat_str
  | .tup ds, _, t, z => by
    obtain ⟨a, xs, rfl, q, r⟩ := z.tup_inv
    unfold thinD at t
    exact dat_tup (sqT_thin h q) (Dats.thin h t r)
  | .lst ds, _, t, z => by
    obtain ⟨a, xs, rfl, q, r⟩ := z.lst_inv
    unfold thinD at t
    exact dat_lst (h _ _ q True.intro) (Dats.thin h t r)
  | .scr ns, _, t, z => by
    obtain ⟨a, rfl, q⟩ := z.scr_inv
    simp only [Dat]
    exact ⟨a, rfl, sqL_thin h q⟩
  | .dic _, _, t, _ => by unfold thinD at t; cases t
  | .obj _, _, t, _ => by unfold thinD at t; cases t
theorem Dats.thin (h : ∀ a o, G a = some o → nIC o → G' a = some o) : ∀ {ds : List D} {xs : List V}, thinDs ds = true → Dats K C G ds xs → Dats K C G' ds xs
  | [], _, _, z => by rw [z.inv0]; exact dats_nil
  | d :: ds, _, t, z => by
    obtain ⟨x, r, rfl, h1, h2⟩ := z.inv
    unfold thinDs at t
    obtain ⟨t1, t2⟩ := Bool.and_eq_true_iff.mp t
    exact dats_cons (Dat.thin h t1 h1) (Dats.thin h t2 h2)
end
theorem thin_map {α : Type} (h : α → D) (q : ∀ a, thinD (h a) = true) : ∀ l : List α, thinDs (l.map h) = true
  | [] => by unfold thinDs; rfl
  | a :: l => by rw [List.map_cons]; unfold thinDs; rw [q a, thin_map h q l]; rfl
theorem thin_mem : ∀ l : List D, (∀ d ∈ l, thinD d = true) → thinDs l = true
  | [], _ => by unfold thinDs; rfl
  | a :: l, h => by unfold thinDs; rw [h a List.mem_cons_self, thin_mem l fun d hd => h d (List.mem_cons_of_mem _ hd)]; rfl
/-! phases -/
structure Ph (K : PySem.W.Frag) (C : Addr) (G0 H0 : Hp) (p : Addr) (cs : List Addr) (a : Pa) (G H : Hp) : Prop where
  sub : Sub G H
  own : OwnP K C G H p cs a
  gg : Sub G0 G
  hh : ∀ x o, x ≠ p → x ∉ cs → H0 x = some o → H x = some o
  fr : ∀ x, H0 x ≠ none → G x ≠ none → G0 x ≠ none
structure Sls (K : PySem.W.Frag) (C : Addr) (G : Hp) (p : Addr) (ip : Nat) (σ : L2.St) (δ : List Sl) : Prop where
  len : σ.length = δ.length
  slot : ∀ i, match dAt δ i with | .no => True | .dat d => ∃ v, sAt σ i = some v ∧ Dat K C G d v | _ => False
  pin : sAt σ ip = some (.ref p)
theorem Sls.rep {p : Addr} {ip : Nat} {σ : L2.St} {δ : List Sl} (s : Sls K C G p ip σ δ) (gh : Sub G H) : Rep K (pf C G H) σ δ G H where
  gh := gh
  inv := True.intro
  mM := fun _ m => m.elim
  mM0 := fun _ m => m.elim
  st := Step.refl gh
  len := s.len
  slot := fun i => by
    have := s.slot i
    cases e : dAt δ i with
    | no => exact True.intro
    | dat d => rw [e] at this; exact this
    | pin _ => rw [e] at this; exact this.elim
    | own _ => rw [e] at this; exact this.elim
    | ownd _ => rw [e] at this; exact this.elim
  sep := fun i j l h1 _ _ _ => by
    have := s.slot i
    cases e : dAt δ i with
    | no => rw [e] at h1; cases h1
    | dat d => rw [e] at h1; cases h1
    | pin _ => rw [e] at h1; cases h1
    | own _ => rw [e] at this; exact this.elim
    | ownd _ => rw [e] at this; exact this.elim
theorem Sls.mono {p : Addr} {ip : Nat} {σ : L2.St} {δ : List Sl} (s : Sls K C G p ip σ δ) (gg : Sub G G') : Sls K C G' p ip σ δ where
  len := s.len
  pin := s.pin
  slot := fun i => by
    have := s.slot i
    cases e : dAt δ i with
    | no => exact True.intro
    | dat d => rw [e] at this; obtain ⟨v, h1, h2⟩ := this; exact ⟨v, h1, h2.mono gg⟩
    | pin _ => rw [e] at this; exact this.elim
    | own _ => rw [e] at this; exact this.elim
    | ownd _ => rw [e] at this; exact this.elim
theorem Sls.set {p : Addr} {ip i : Nat} {σ : L2.St} {δ : List Sl} {v : V} {d : D} (s : Sls K C G p ip σ δ) (hi : i < δ.length) (ne : i ≠ ip) (z : Dat K C G d v) : Sls K C G p ip (σ.set i (some v)) (δ.set i (.dat d)) where
  len := by rw [List.length_set, List.length_set]; exact s.len
  pin := by rw [sAt_set (by rw [s.len]; exact hi), if_neg ne]; exact s.pin
  slot := fun j => by
    rw [dAt_set hi, sAt_set (by rw [s.len]; exact hi)]
    by_cases e : i = j
    · rw [if_pos e, if_pos e]; exact ⟨v, rfl, z⟩
    · rw [if_neg e, if_neg e]; exact s.slot j
/-- a step in a phase -/
theorem Ph.next {G0 H0 : Hp} {p : Addr} {cs : List Addr} {a : Pa} (ph : Ph K C G0 H0 p cs a G H) (t : Step (pf C (ext G H p cs) H) (ext G H p cs) H G' H') : Ph K C G0 H0 p cs a (thin G' p cs) H' ∧ G' = ext (thin G' p cs) H' p cs := by
  have tp : PStep (ext G H p cs) H G' H' := t.p
  have gin : ∀ x, (x = p ∨ x ∈ cs) → G' x = H x ∧ H' x = H x := fun x h => by
    cases e : H x with
    | none => exact absurd e (ph.own.hx h)
    | some o => exact ⟨tp.gg x o (by rw [ext_in h]; exact e), tp.hh x o e⟩
  have sg : Sub G (thin G' p cs) := fun x o e => by
    have h : ¬ (x = p ∨ x ∈ cs) := fun h => by rw [ph.own.gx h] at e; cases e
    rw [thin_out h]; exact tp.gg x o (by rw [ext_out h]; exact e)
  refine ⟨⟨fun x o e => ?_, ⟨?_, thin_in (.inl rfl), ph.own.len, ph.own.nd, fun k c e => ?_⟩, ph.gg.trans sg, fun x o h1 h2 e => tp.hh x o (ph.hh x o h1 h2 e), fun x h1 h2 => ?_⟩, ?_⟩
  · by_cases h : x = p ∨ x ∈ cs
    · rw [thin_in h] at e; cases e
    · rw [thin_out h] at e; exact tp.gh x o e
  · obtain ⟨dx, ys, tc, e, z, q⟩ := ph.own.ins
    exact ⟨dx, ys, tc, (gin p (.inl rfl)).2.trans e, z.mono sg, sg.sqT q⟩
  · have hm : c = p ∨ c ∈ cs := .inr (List.mem_of_getElem? e)
    exact ⟨(gin c hm).2.trans (ph.own.dic k c e).1, thin_in hm⟩
  · by_cases h : x = p ∨ x ∈ cs
    · rw [thin_in h] at h2; exact absurd rfl h2
    · rw [thin_out h] at h2
      have hx : H x ≠ none := by
        cases q : H0 x with
        | none => exact absurd q h1
        | some o => exact ne_none (ph.hh x o (fun z => h (.inl z)) (fun z => h (.inr z)) q)
      have := tp.fr x hx h2
      rw [ext_out h] at this
      exact ph.fr x h1 this
  · funext x
    by_cases h : x = p ∨ x ∈ cs
    · rw [ext_in h, (gin x h).1, (gin x h).2]
    · rw [ext_out h, thin_out h]
end
def tPh (K : PySem.W.Frag) (C : Addr) (ip : Nat) (G0 H0 : Hp) (p : Addr) (cs : List Addr) (δ : List Sl) (a : Pa) (N : List Sl → Pa → Prop) (R : V → Hp → Prop) : TS := fun Dn σ H =>
  ∃ G, Ph K C G0 H0 p cs a G H ∧ Sls K C (ext G H p cs) p ip σ δ ∧ (∀ δ' a' σ' G' H', N δ' a' → Ph K C G0 H0 p cs a' G' H' → Sls K C (ext G' H' p cs) p ip σ' δ' → Dn.nx σ' H') ∧ (∀ v H', R v H' → Dn.rt v H')
section
variable {X : Cx} {C : Addr} {ip : Nat} {G0 H0 : Hp} {p : Addr} {cs : List Addr} {δ : List Sl} {a : Pa} {N : List Sl → Pa → Prop} {R : V → Hp → Prop}
theorem ph_cons {st : Stmt} {rest : List Stmt} {N1 : List Sl → Pa → Prop} (h1 : PS X st (tPh X.K C ip G0 H0 p cs δ a N1 R)) (h2 : ∀ δ1 a1, N1 δ1 a1 → PSs X rest (tPh X.K C ip G0 H0 p cs δ1 a1 N R)) : PSs X (st :: rest) (tPh X.K C ip G0 H0 p cs δ a N R) :=
  pss_imp (pss_cons h1 (pss_ex (α := List Sl × Pa) (p := fun x => N1 x.1 x.2) (t := fun x => tPh X.K C ip G0 H0 p cs x.1 x.2 N R) fun x hx => h2 x.1 x.2 hx)) fun Dn σ H ⟨G, ph, sl, hn, hr⟩ => ⟨G, ph, sl, fun δ' a' σ' G' H' n ph' sl' => ⟨(δ', a'), n, G', ph', sl', hn, hr⟩, hr⟩
theorem ph_seq {st : Stmt} {rest : List Stmt} {δ1 : List Sl} {a1 : Pa} (h1 : PS X st (tPh X.K C ip G0 H0 p cs δ a (fun e b => e = δ1 ∧ b = a1) R)) (h2 : PSs X rest (tPh X.K C ip G0 H0 p cs δ1 a1 N R)) : PSs X (st :: rest) (tPh X.K C ip G0 H0 p cs δ a N R) :=
  ph_cons h1 fun _ _ ⟨e, k⟩ => by rw [e, k]; exact h2
theorem ph_weak {st : Stmt} {N' : List Sl → Pa → Prop} (h1 : PS X st (tPh X.K C ip G0 H0 p cs δ a N R)) (k : ∀ e b, N e b → N' e b) : PS X st (tPh X.K C ip G0 H0 p cs δ a N' R) := ps_imp h1 fun Dn σ H ⟨G, ph, sl, hn, hr⟩ => ⟨G, ph, sl, fun δ' a' σ' G' H' n => hn δ' a' σ' G' H' (k δ' a' n), hr⟩
theorem ph_set {i : Nat} {y : Str} {e : Expr} {pos' pos : Pos} {d : D} {δ1 : List Sl} (hN : X.N.Nodup) (hi : X.N[i]? = some y) (hx : Loc X.env.scope y) (hl : i < δ.length) (ne : i ≠ ip) (he : ∀ G H, PE X e (tD X.K (pf C G H) δ d)) (h1 : δ.set i (.dat d) = δ1)
    (hs : swapsWith e (some (.Name y pos')) pos.line X.env = pure false := by rfl) (hf : X.fn y = true ∨ X.env.scope.names.lookup y = some .local := by first | exact .inl rfl | exact .inr rfl | assumption) :
    PS X (.Assign [.Name y pos'] e pos) (tPh X.K C ip G0 H0 p cs δ a (fun e b => e = δ1 ∧ b = a) R) :=
  ⟨fun pins s σ H Dn I ⟨G, ph, sl, hn, hr⟩ => (ps_set hN hi hx (he (ext G H p cs) H) hs hf).run pins s σ H Dn I ⟨ext G H p cs, sl.rep (ext_sub ph.sub), fun v d' G' H' t e z => by
    subst e
    obtain ⟨ph', q⟩ := ph.next t
    refine hn _ a _ (thin G' p cs) H' ⟨rfl, rfl⟩ ph' ?_
    rw [← q, ← h1]
    exact (sl.mono t.gg).set hl ne z⟩⟩
theorem ph_if0 {c : Expr} {body : List Stmt} {pos : Pos} (hc : ∀ G H, PT X c (tBo X.K (pf C G H) δ false)) : PS X (.If c body [] pos) (tPh X.K C ip G0 H0 p cs δ a (fun e b => e = δ ∧ b = a) R) :=
  ⟨fun pins s σ H Dn I ⟨G, ph, sl, hn, hr⟩ => (ps_if (hc (ext G H p cs) H) pss_never pss_nil).run pins s σ H Dn I ⟨ext G H p cs, sl.rep (ext_sub ph.sub), fun G' H' t => iteF (by
    obtain ⟨ph', q⟩ := ph.next t
    refine hn _ a _ (thin G' p cs) H' ⟨rfl, rfl⟩ ph' ?_
    rw [← q]
    exact sl.mono t.gg)⟩⟩
theorem ph_ret {e : Expr} {pos : Pos} {P : D → Prop} (he : ∀ G H, PE X e (tP X.K (pf C G H) δ P)) :
    PS X (.Return (some e) pos) (tPh X.K C ip G0 H0 p cs δ a N (fun v H' => ∃ d G', P d ∧ Ph X.K C G0 H0 p cs a G' H' ∧ Dat X.K C (ext G' H' p cs) d v)) :=
  ⟨fun pins s σ H Dn I ⟨G, ph, sl, hn, hr⟩ => (ps_ret (he (ext G H p cs) H)).run pins s σ H Dn I ⟨ext G H p cs, sl.rep (ext_sub ph.sub), fun v d G' H' t pd z => by
    obtain ⟨ph', q⟩ := ph.next t
    exact hr v H' ⟨d, thin G' p cs, pd, ph', by rw [← q]; exact z⟩⟩⟩
end
end Un
set_option maxHeartbeats 4000000
namespace Un
open PySem L2
theorem nodup_inj {α : Type} {l : List α} (h : l.Nodup) {i j : Nat} {c : α} (e1 : l[i]? = some c) (e2 : l[j]? = some c) : i = j := by
  obtain ⟨l1, e1⟩ := List.getElem?_eq_some_iff.mp e1
  obtain ⟨l2, e2⟩ := List.getElem?_eq_some_iff.mp e2
  rcases Nat.lt_trichotomy i j with q | q | q
  · exact absurd (e1.trans e2.symm) (List.pairwise_iff_getElem.mp h i j l1 l2 q)
  · exact q
  · exact absurd (e2.trans e1.symm) (List.pairwise_iff_getElem.mp h j i l2 l1 q)
def slThin : Sl → Bool
  | .no => true
  | .dat d => thinD d
  | _ => false
section
variable {K : PySem.W.Frag} {C : Addr} {G H : Hp} {p : Addr} {cs : List Addr} {ip : Nat} {σ : L2.St} {δ : List Sl}
theorem Sls.change {G' : Hp} {d : D} (s : Sls K C G p ip σ δ) (h : ∀ a o, G a = some o → nIC o → G' a = some o) (hi : ip < δ.length) (ht : (δ.set ip .no).all slThin = true) (z : Dat K C G' d (.ref p)) : Sls K C G' p ip σ (δ.set ip (.dat d)) where
  len := by rw [List.length_set]; exact s.len
  pin := s.pin
  slot := fun i => by
    rw [dAt_set hi]
    by_cases e : ip = i
    · rw [if_pos e]; subst e; exact ⟨_, s.pin, z⟩
    · rw [if_neg e]
      have hs := s.slot i
      cases q : dAt δ i with
      | no => exact True.intro
      | dat d' =>
        rw [q] at hs
        obtain ⟨v, h1, h2⟩ := hs
        refine ⟨v, h1, h2.thin h ?_⟩
        have l : i < δ.length := by
          cases Nat.lt_or_ge i δ.length with
          | inl l => exact l
          | inr l => unfold dAt at q; rw [List.getD_eq_getElem?_getD, List.getElem?_eq_none l] at q; cases q
        have hm : δ[i] ∈ δ.set ip .no := by
          rw [List.mem_iff_getElem]
          exact ⟨i, by rw [List.length_set]; exact l, by rw [List.getElem_set_ne (fun z => e z)]⟩
        have := List.all_eq_true.mp ht _ hm
        have q2 : δ[i] = .dat d' := by unfold dAt at q; rw [List.getD_eq_getElem?_getD, List.getElem?_eq_getElem l] at q; exact q
        rw [q2] at this; exact this
      | own _ => rw [q] at hs; exact hs.elim
      | pin _ => rw [q] at hs; exact hs.elim
      | ownd _ => rw [q] at hs; exact hs.elim
theorem camV_put : ∀ {c : Came} {i : Nat} {x : Int}, c.lookup i = none → putK (camV c) (Sum.inl ((i : Nat) : Int) : Key) (V.int x) = camV (c ++ [(i, x)]) := by
  intro c i x h
  unfold putK
  rw [if_neg]
  · unfold camV; rw [List.map_append]; rfl
  · intro e
    obtain ⟨kv, h1, h2⟩ := List.any_eq_true.mp e
    obtain ⟨y, hy, rfl⟩ := List.mem_map.mp h1
    have h2 : (Sum.inl ((y.1 : Nat) : Int) : Key) = Sum.inl ((i : Nat) : Int) := of_decide_eq_true h2
    have h3 : y.1 = i := by have := Sum.inl.inj h2; omega
    have := List.lookup_eq_none_iff.mp h y hy
    rw [h3] at this; simp at this
def Pa.put (a : Pa) (k i : Nat) (x : Int) : Pa := { a with came := a.came.set k (cameL a k ++ [(i, x)]) }
def Pa.tk (a : Pa) (l : Nat × Nat × Int) : Pa := { a with took := a.took ++ [l] }
theorem ext_nIC {a : Pa} (o : OwnP K C G H p cs a) {H' : Hp} : ∀ b u, ext G H p cs b = some u → nIC u → ext G H' p cs b = some u := by
  intro b u h hn
  by_cases e : b = p ∨ b ∈ cs
  · rw [ext_in e] at h
    rcases e with e | e
    · obtain ⟨_, _, _, q, _⟩ := o.ins
      rw [e, q] at h; cases h; exact hn.elim
    · obtain ⟨k, q⟩ := List.mem_iff_getElem?.mp e
      rw [(o.dic k b q).1] at h; cases h; exact hn.elim
  · rw [ext_out e] at h ⊢; exact h
/-- a number came -/
theorem Ph.put {G0 H0 : Hp} {a : Pa} (ph : Ph K C G0 H0 p cs a G H) {k i : Nat} {x : Int} {c : Addr} (hc : cs[k]? = some c) (hn : (cameL a k).lookup i = none) :
    Ph K C G0 H0 p cs (a.put k i x) G (upd H c (.dK (putK (camV (cameL a k)) (Sum.inl ((i : Nat) : Int)) (.int x)))) := by
  have hk : k < cs.length := (List.getElem?_eq_some_iff.mp hc).1
  have hd := ph.own.dic k c hc
  have cp : c ≠ p := fun e => by
    obtain ⟨_, _, _, q, _⟩ := ph.own.ins
    rw [← e, hd.1] at q; cases q
  refine ⟨fun y o e => ?_, ⟨?_, ph.own.gp, ?_, ph.own.nd, fun j b hb => ⟨?_, (ph.own.dic j b hb).2⟩⟩, ph.gg, fun y o h1 h2 e => ?_, ph.fr⟩
  · rw [upd_ne (fun z => by rw [z, hd.2] at e; cases e)]; exact ph.sub y o e
  · obtain ⟨dx, ys, tc, q, z, s⟩ := ph.own.ins
    exact ⟨dx, ys, tc, by rw [upd_ne (fun z => cp z.symm)]; exact q, z, s⟩
  · unfold Pa.put; simp only [List.length_set]; exact ph.own.len
  · rw [camV_put hn]
    unfold Pa.put
    simp only
    by_cases e : j = k
    · subst e
      rw [hc] at hb; cases hb
      rw [upd_same, List.getD_eq_getElem?_getD, List.getElem?_set_self (by rw [← ph.own.len]; exact hk)]; rfl
    · have ne : b ≠ c := fun z => by
        subst z
        exact e (nodup_inj ph.own.nd hb hc)
      rw [upd_ne ne, List.getD_eq_getElem?_getD, List.getElem?_set_ne (fun z => e z.symm), ← List.getD_eq_getElem?_getD]
      exact (ph.own.dic j b hb).1
  · rw [upd_ne (fun z => h2 (by rw [z]; exact List.mem_of_getElem? hc))]; exact ph.hh y o h1 h2 e
theorem putF_ne {f g : Str} {v x : V} {r : List (Str × V)} (h : ¬ g = f) : putF f v ((g, x) :: r) = (g, x) :: putF f v r := by
  show (if g = f then (g, v) :: r else (g, x) :: putF f v r) = _
  rw [if_neg h]
theorem putF_eq {f : Str} {v x : V} {r : List (Str × V)} : putF f v ((f, x) :: r) = (f, v) :: r := by
  show (if f = f then (f, v) :: r else (f, x) :: putF f v r) = _
  rw [if_pos rfl]
/-- a letter noted -/
theorem Ph.tk {G0 H0 : Hp} {a : Pa} (ph : Ph K C G0 H0 p cs a G H) {l : Nat × Nat × Int} {v : V} (z : Dat K C G (.tup ((a.tk l).took.map (letD a.num))) v) :
    ∃ dx fs, H p = some (.ins C dx fs) ∧ fs.length < 1000 ∧ Ph K C G0 H0 p cs (a.tk l) G (upd H p (.ins C dx (putF "_took" v fs))) := by
  obtain ⟨dx, ys, tc, q, y, s⟩ := ph.own.ins
  unfold Pa.fs5 at y
  obtain ⟨v1, r1, rfl, y1, y⟩ := y.inv
  obtain ⟨v2, r2, rfl, y2, y⟩ := y.inv
  obtain ⟨v3, r3, rfl, y3, y⟩ := y.inv
  obtain ⟨v4, r4, rfl, y4, y⟩ := y.inv
  obtain ⟨v5, r5, rfl, y5, y⟩ := y.inv
  rw [y.inv0] at q
  refine ⟨dx, _, q, Nat.le_of_ble_eq_true rfl, ?_⟩
  have e : putF "_took" v ([(("_own" : Str), v1), ("_given", v2), ("_drawn", v3), ("_weighed", v4), ("_took", v5)] ++ [(("_came" : Str), V.ref tc)]) = [(("_own" : Str), v1), ("_given", v2), ("_drawn", v3), ("_weighed", v4), ("_took", v)] ++ [(("_came" : Str), V.ref tc)] := by
    show putF "_took" v [(("_own" : Str), v1), ("_given", v2), ("_drawn", v3), ("_weighed", v4), ("_took", v5), ("_came", V.ref tc)] = _
    rw [putF_ne (by decide +kernel), putF_ne (by decide +kernel), putF_ne (by decide +kernel), putF_ne (by decide +kernel), putF_eq]; rfl
  rw [e]
  have pc : p ∉ cs := fun h => by
    obtain ⟨k, e⟩ := List.mem_iff_getElem?.mp h
    rw [(ph.own.dic k p e).1] at q; cases q
  refine ⟨fun b o h => ?_, ⟨⟨dx, _, tc, upd_same, ?_, s⟩, ph.own.gp, ph.own.len, ph.own.nd, fun j b hb => ⟨?_, (ph.own.dic j b hb).2⟩⟩, ph.gg, fun b o h1 h2 h => ?_, ph.fr⟩
  · rw [upd_ne (fun z => by rw [z, ph.own.gp] at h; cases h)]; exact ph.sub b o h
  · exact datf_cons y1 (datf_cons y2 (datf_cons y3 (datf_cons y4 (datf_cons z datf_nil))))
  · rw [upd_ne (fun z => pc (by rw [← z]; exact List.mem_of_getElem? hb))]; exact (ph.own.dic j b hb).1
  · rw [upd_ne h1]; exact ph.hh b o h1 h2 h
theorem sls_read {Q : L2.St → Hp → Prop} : ∀ (is : List Nat) (ds : List D) (xs : List V) (σ : L2.St) (δ : List Sl), (∀ i ∈ is, i < δ.length) → ip ∉ is → is.length = ds.length → Sls K C G p ip σ δ → Dats K C G ds xs →
    (∀ σ', Sls K C G p ip σ' (setAll δ is ds) → Q σ' H) → gSlots is xs σ H Q
  | [], [], xs, σ, δ, _, _, _, sl, z, q => ⟨z.inv0, q σ sl⟩
  | [], _ :: _, _, _, _, _, _, h, _, _, _ => by simp at h
  | _ :: _, [], _, _, _, _, _, h, _, _, _ => by simp at h
  | i :: is, d :: ds, xs, σ, δ, hi, hp, hl, sl, z, q => by
    obtain ⟨x, r, rfl, z1, z2⟩ := z.inv
    refine ⟨x, r, rfl, ?_⟩
    exact sls_read is ds r _ _ (fun k hk => by rw [List.length_set]; exact hi k (List.mem_cons_of_mem _ hk)) (fun h => hp (List.mem_cons_of_mem _ h)) (by simpa using hl) (sl.set (hi i List.mem_cons_self) (fun e => hp (by rw [e]; exact List.mem_cons_self)) z1) z2 q
end
section
variable {X : Cx} {C : Addr} {ip : Nat} {G0 H0 : Hp} {p : Addr} {cs : List Addr} {δ : List Sl} {a : Pa} {N : List Sl → Pa → Prop} {R : V → Hp → Prop}
theorem ph_unpack {es : List Expr} {k : Nat} {tpos pos : Pos} {e : Expr} {is : List Nat} {ds : List D} {δ1 : List Sl} (hc : X.calm = true) (he : ∀ G H, PE X e (tD X.K (pf C G H) δ (.tup ds))) (hg : PGs X es (gSlots is)) (hi : ∀ i ∈ is, i < δ.length) (hp : ip ∉ is) (hl : is.length = ds.length) (h1 : setAll δ is ds = δ1)
    (hn : (assignEach es X.env).length = is.length := by rfl) (hst : (assignEach es X.env).findIdx? (·.1) = none := by rfl)
    (hs : swapsWithSole [.Tuple es k tpos] e pos.line X.env = pure false := by rfl) (hw : swappedStores [.Tuple es k tpos] e X.env = pure none := by rfl) (h2 : (assignEach [.Tuple es k tpos] X.env).map (·.2) = [assign (.Tuple es k tpos) X.env] := by rfl) :
    PS X (.Assign [.Tuple es k tpos] e pos) (tPh X.K C ip G0 H0 p cs δ a (fun e b => e = δ1 ∧ b = a) R) :=
  ⟨fun pins s σ H Dn I ⟨G, ph, sl, hn', hr⟩ => (ps_asg (he (ext G H p cs) H) (pg_tup (n := is.length) hc hg hn hst) hs hw h2).run pins s σ H Dn I ⟨ext G H p cs, sl.rep (ext_sub ph.sub), fun v d G' H' t e z => by
    subst e
    obtain ⟨b, xs, rfl, q1, q2⟩ := z.tup_inv
    obtain ⟨ph', q⟩ := ph.next t
    refine ⟨b, xs, rfl, t.gh.sqT q1, by rw [← q2.len, hl], sls_read is ds xs σ δ hi hp hl (sl.mono t.gg) q2 fun σ' sl' => hn' (setAll δ is ds) a σ' (thin G' p cs) H' ⟨h1, rfl⟩ ph' ?_⟩
    rw [← q]; exact sl'⟩⟩
/-- self._came[k][i] = e -/
theorem ph_dput {o kx ix e : Expr} {k i : Nat} {x : Int} {apos spos pos' pos : Pos} {δ1 : List Sl} (c : Ca X.K C) (hu : X.A.units + 1 < cLine) (ho : PE X o (tVar ip)) (hk : ∀ G H, PE X kx (tD X.K (pf C G H) δ (.int (k : Int)))) (hi : ∀ G H, PE X ix (tD X.K (pf C G H) δ (.int (i : Int)))) (he : ∀ G H, PE X e (tD X.K (pf C G H) δ (.int x)))
    (hl : k < a.came.length) (hn : (cameL a k).lookup i = none) (hz : (cameL a k).length < 1000) (hip : ip < δ.length) (ht : (δ.set ip .no).all slThin = true) (h1 : δ.set ip (.dat (a.put k i x).d) = δ1)
    (hpl : PlainIx kx := by exact fun _ _ => rfl) (hb : attributeBase o "_came" X.env (eval o X.env) = eval o X.env := by rfl)
    (hs : swapsWith e (some (.Subscript (.Subscript (.Attribute o "_came" apos) kx spos) ix pos')) pos.line X.env = pure false := by rfl) :
    PS X (.Assign [.Subscript (.Subscript (.Attribute o "_came" apos) kx spos) ix pos'] e pos) (tPh X.K C ip G0 H0 p cs δ a (fun e b => e = δ1 ∧ b = a.put k i x) R) :=
  ⟨fun pins s σ H Dn I ⟨G, ph, sl, hn', hr⟩ => (ps_dput hu (pe_ix ix_tup (pe_fld ho hb) (hk (ext G H p cs) H) hpl) (hi (ext G H p cs) H) (he (ext G H p cs) H) hs).run pins s σ H Dn I ⟨ext G H p cs, sl.rep (ext_sub ph.sub), fun v d G1 H1 t1 e1 z1 => by
    subst e1
    have rp1 := (sl.rep (ext_sub ph.sub)).step t1
    obtain ⟨ph1, q1⟩ := ph.next t1
    obtain ⟨dx, ys, tc, q, y, s⟩ := ph1.own.ins
    refine ⟨_, sAt_some sl.pin, p, C, dx, _, .ref tc, rfl, q, c.cl, c.came, ?_, G1, rp1, fun v2 d2 G2 H2 t2 e2 z2 => ?_⟩
    · have := (Datf.app (y.mono (Sub.refl _)) (datf_cons (K := X.K) (C := C) (G := thin G1 p cs) (k := ("_came" : Str)) (d := .non) (x := .non) dat_non datf_nil))
      unfold Pa.fs5 at y
      obtain ⟨v1, r1, rfl, y1, y⟩ := y.inv
      obtain ⟨v2, r2, rfl, y2, y⟩ := y.inv
      obtain ⟨v3, r3, rfl, y3, y⟩ := y.inv
      obtain ⟨v4, r4, rfl, y4, y⟩ := y.inv
      obtain ⟨v5, r5, rfl, y5, y⟩ := y.inv
      rw [y.inv0]
      show List.lookup ("_came" : Str) [(("_own" : Str), v1), ("_given", v2), ("_drawn", v3), ("_weighed", v4), ("_took", v5), ("_came", V.ref tc)] = _
      simp only [List.lookup_cons, show (("_came" : Str) == ("_own" : Str)) = false by decide +kernel, show (("_came" : Str) == ("_given" : Str)) = false by decide +kernel, show (("_came" : Str) == ("_drawn" : Str)) = false by decide +kernel, show (("_came" : Str) == ("_weighed" : Str)) = false by decide +kernel, show (("_came" : Str) == ("_took" : Str)) = false by decide +kernel, show (("_came" : Str) == ("_came" : Str)) = true by decide +kernel]
    · subst e2
      rw [z2.int_inv]
      have hk2 : k < cs.length := by rw [ph.own.len]; exact hl
      have hcs : cs[k]? = some cs[k] := List.getElem?_eq_getElem hk2
      refine ⟨tc, cs.map V.ref, (k : Int), .ref cs[k], rfl, rfl, ?_, atI_nat (by rw [List.getElem?_map, hcs]; rfl), G2, rp1.step t2, fun v3 d3 G3 H3 t3 e3 z3 => ?_⟩
      · exact t2.gh.sqT (t2.gg.sqT (by rw [q1]; exact ph1.own.sub.sqT s))
      · subst e3
        have t := (t1.trans t2).trans t3
        obtain ⟨ph3, q3⟩ := ph.next t
        have hd := ph3.own.dic k cs[k] hcs
        refine ⟨cs[k], upd H3 cs[k] (.dK (putK (camV (cameL a k)) (Sum.inl ((i : Nat) : Int) : Key) (.int x))), rfl, ?_, ?_⟩
        · rw [z3.int_inv, z1.int_inv]
          exact DPut.k (k := Sum.inl ((i : Nat) : Int)) hd.1 (by unfold camV; rw [List.length_map]; exact Nat.lt_of_lt_of_le hz (by decide))
        · have ph4 := ph3.put (x := x) hcs hn
          refine hn' _ _ σ (thin G3 p cs) _ ⟨rfl, rfl⟩ ph4 ?_
          rw [← h1]
          refine (Sls.change (G := ext (thin G3 p cs) H3 p cs) ?_ (ext_nIC ph3.own) hip ht ph4.own.dat)
          rw [← q3]
          exact sl.mono t.gg⟩⟩
/-- self._took = e -/
theorem ph_tk {o e : Expr} {l : Nat × Nat × Int} {pos' pos : Pos} {δ1 : List Sl} (c : Ca X.K C) (ho : PE X o (tVar ip)) (he : ∀ G H, PE X e (tD X.K (pf C G H) δ (.tup ((a.tk l).took.map (letD a.num)))))
    (hth : thinD (.tup ((a.tk l).took.map (letD a.num))) = true) (hip : ip < δ.length) (ht : (δ.set ip .no).all slThin = true) (h1 : δ.set ip (.dat (a.tk l).d) = δ1)
    (hs : swapsWith e (some (.Attribute o "_took" pos')) pos.line X.env = pure false := by rfl) :
    PS X (.Assign [.Attribute o "_took" pos'] e pos) (tPh X.K C ip G0 H0 p cs δ a (fun e b => e = δ1 ∧ b = a.tk l) R) :=
  ⟨fun pins s σ H Dn I ⟨G, ph, sl, hn', hr⟩ => (ps_fld ho (he (ext G H p cs) H) hs).run pins s σ H Dn I ⟨ext G H p cs, sl.rep (ext_sub ph.sub), fun v d G1 H1 t1 e1 z1 => by
    subst e1
    obtain ⟨ph1, q1⟩ := ph.next t1
    obtain ⟨dx, fs, q, hf, ph2⟩ := ph1.tk (l := l) (v := v) (z1.thin (fun b u hb hn => by
      rw [q1] at hb
      by_cases e : b = p ∨ b ∈ cs
      · rw [ext_in e] at hb
        rcases e with e | e
        · obtain ⟨_, _, _, q, _⟩ := ph1.own.ins
          rw [e, q] at hb; cases hb; exact hn.elim
        · obtain ⟨k, q⟩ := List.mem_iff_getElem?.mp e
          rw [(ph1.own.dic k b q).1] at hb; cases hb; exact hn.elim
      · rw [ext_out e] at hb; exact hb) hth)
    refine ⟨_, sAt_some sl.pin, p, C, dx, fs, rfl, q, c.cl, c.took, hf, ?_⟩
    refine hn' _ _ σ (thin G1 p cs) _ ⟨rfl, rfl⟩ ph2 ?_
    rw [← h1]
    refine (Sls.change (G := ext (thin G1 p cs) H1 p cs) ?_ (ext_nIC ph1.own) hip ht ph2.own.dat)
    rw [← q1]
    exact sl.mono t1.gg⟩⟩
end
end Un
set_option maxHeartbeats 4000000
namespace Un
open PySem L2
structure LetOk (a : Pa) (l : Nat × Nat × Int) : Prop where
  k : l.1 < a.rows.length
  i1 : 1 ≤ l.2.1
  i2 : l.2.1 ≤ a.se.n
  s : ∀ r, a.rows[l.1]? = some r → sendsM r l.2.1 a.num = true
  x1 : 0 ≤ l.2.2
  x2 : l.2.2 < a.se.p
def S_is_integer (ds : List D) (d : D) : Prop := ∃ i : Int, ds = [.int i] ∧ d = .bl true
def S_is_letter (ds : List D) (d : D) : Prop := ∃ (a : Pa) (l : Nat × Nat × Int), ds = [a.d, letD a.num l] ∧ LetOk a l ∧ d = .bl true
theorem let_str : PyData.strOk ("letter" : Str) = true := by decide +kernel
theorem let_ok (num : Nat) (l : Nat × Nat × Int) : eqOk (letD num l) :=
  ⟨by simp [letD, pureD, pureDs], by simp [letD, pyD, pysD, SeqAt.shaped, PyData.canLay0, PyData.canLayAll0, PyData.depth, PyData.depthAll, let_str]⟩
theorem out_let (num k : Nat) (x : Nat × Int) : ∃ (m : Nat) (l : Nat × Nat × Int), outD num k x = letD m l := ⟨x.1, (k, num, x.2), rfl⟩
theorem made_mem {a : Pa} {found : List (Option Int)} {n : Nat} {d : D} (h : d ∈ madeTo a found n) : ∃ (m : Nat) (l : Nat × Nat × Int), d = letD m l := by
  unfold madeTo at h
  obtain ⟨l1, h1, h2⟩ := List.mem_flatten.mp h
  obtain ⟨k, _, rfl⟩ := List.mem_map.mp h1
  cases e : a.rows[k]? with
  | none => rw [e] at h2; simp at h2
  | some r =>
    rw [e] at h2
    obtain ⟨x, _, rfl⟩ := List.mem_map.mp h2
    exact out_let _ _ _
theorem lets_pure : ∀ l : List D, (∀ d ∈ l, ∃ (m : Nat) (x : Nat × Nat × Int), d = letD m x) → pureDs l = true ∧ PyData.canLayAll0 (pysD l) = true
  | [], _ => ⟨by unfold pureDs; rfl, by unfold pysD; unfold PyData.canLayAll0; rfl⟩
  | d :: l, h => by
    obtain ⟨h1, h2⟩ := lets_pure l fun e he => h e (List.mem_cons_of_mem _ he)
    obtain ⟨m, x, rfl⟩ := h d List.mem_cons_self
    have q := let_ok m x
    have q2 : (pyD (letD m x)).canLay0 = true := by
      have := q.2
      unfold SeqAt.shaped at this
      exact (Bool.and_eq_true_iff.mp this).1
    constructor
    · unfold pureDs; rw [q.1, h1]; rfl
    · unfold pysD; unfold PyData.canLayAll0; rw [q2, h2]; rfl
theorem let_thin (m : Nat) (x : Nat × Nat × Int) : thinD (letD m x) = true := by simp [letD, thinD, thinDs]
theorem made_thin (a : Pa) (found : List (Option Int)) (n : Nat) : thinD (.tup (madeTo a found n)) = true := by
  unfold thinD
  exact thin_mem _ fun d hd => by obtain ⟨m, x, rfl⟩ := made_mem hd; exact let_thin m x
theorem put_ok {a : Pa} (ok : a.Ok) {l : Nat × Nat × Int} (lo : LetOk a l) (hn : (cameL a l.1).lookup l.2.1 = none) : (a.put l.1 l.2.1 l.2.2).Ok where
  se := ok.se
  rows := ok.rows
  n1 := ok.n1
  n2 := ok.n2
  inl := ok.inl
  col := ok.col
  cal := by unfold Pa.put; simp only [List.length_set]; exact ok.cal
  inr := ok.inr
  cam := fun k c h => by
    unfold Pa.put at h
    simp only at h
    have hl : l.1 < a.came.length := by rw [ok.cal]; exact lo.k
    by_cases e : l.1 = k
    · subst e
      rw [List.getElem?_set_self hl] at h
      cases h
      have c0 := came_ok ok lo.k
      have hne : l.2.1 ≠ a.num := fun e => by
        have := lo.s _ (List.getElem?_eq_getElem lo.k)
        unfold sendsM at this
        rw [if_pos e] at this; cases this
      refine ⟨?_, fun x hx => ?_, fun x hx => ?_⟩
      · rw [List.map_append]
        refine List.nodup_append.mpr ⟨c0.nd, by simp, fun x hx y hy => ?_⟩
        rw [List.map_cons, List.map_nil] at hy
        rw [List.mem_singleton.mp hy]
        intro e
        subst e
        obtain ⟨z, hz, e⟩ := List.mem_map.mp hx
        have := List.lookup_eq_none_iff.mp hn z hz
        rw [e] at this; simp at this
      · rcases List.mem_append.mp hx with h | h
        · exact c0.inn x h
        · rw [List.mem_singleton.mp h]; exact ⟨lo.i1, lo.i2, hne⟩
      · rcases List.mem_append.mp hx with h | h
        · exact c0.val x h
        · rw [List.mem_singleton.mp h]; exact ⟨lo.x1, lo.x2⟩
    · rw [List.getElem?_set_ne e] at h
      have := ok.cam k c h
      exact ⟨this.nd, this.inn, this.val⟩
theorem tk_ok {a : Pa} (ok : a.Ok) (l : Nat × Nat × Int) : (a.tk l).Ok := ⟨ok.se, ok.rows, ok.n1, ok.n2, ok.inl, ok.col, ok.cal, fun k c h => ⟨(ok.cam k c h).nd, (ok.cam k c h).inn, (ok.cam k c h).val⟩, ok.inr⟩
def Pa.take (a : Pa) (l : Nat × Nat × Int) : Pa := (a.put l.1 l.2.1 l.2.2).tk l
def spTake (K : PySem.W.Frag) (C : Addr) : Sp := fun vs H Q _ => ∃ (G : Hp) (p : Addr) (cs : List Addr) (a : Pa) (l : Nat × Nat × Int) (lv : V), vs = [.ref p, lv] ∧ Sub G H ∧ OwnP K C G H p cs a ∧ Dat K C G (letD a.num l) lv ∧ a.Ok ∧ LetOk a l ∧ (cameL a l.1).lookup l.2.1 = none ∧ (cameL a l.1).length < 1000 ∧ a.took.length < 1000 ∧
  ∀ v G' H', Ph K C G H p cs (a.take l) G' H' → Q v H'
section
variable {P : Program} {w : World} {K : PySem.W.Frag} {mg : Str → Option Value} {base : Heap} {C : Addr} {g : Addr} {fd : FuncData}
abbrev s_is_integer : Stmt := top 17
abbrev N_is_integer : List Str := ["thing"]
theorem sc_is_integer : FnScope N_is_integer ["thing"] (defScope s_is_integer) := ⟨rfl, rfl, rfl, by decide +kernel, rfl, by decide +kernel, by decide +kernel⟩
theorem ok_is_integer (B : Bt mg) (F : Fun K "is_integer" "is_integer" s_is_integer g fd) : FnOk P w K mg base CX0 1 g fd ["thing"] (spD K C 1 S_is_integer) := by
  refine fn_D F sc_is_integer rfl fun cdv A outer s H E G ds d hr hS => ?_
  obtain ⟨i, rfl, rfl⟩ := hS
  exact s_one (s_ret (x_eq (x_and (x_isi (b := true) rfl B.isinstance rfl B.int rfl (by decide +kernel) (by decide) (x_of (pv 0) rfl) rfl (by decide +kernel)) fun _ => x_one (x_not (x_isi (b := false) rfl B.isinstance rfl B.bool rfl (by decide +kernel) (by decide) (x_of (pv 0) rfl) rfl (by decide +kernel)))) rfl))
abbrev s_Party__is_letter : Stmt := inClass (top 36) 19
abbrev N_Party__is_letter : List Str := ["self", "letter", "setting", "program", "number", "k", "i", "j", "x", "item"]
theorem sc_Party__is_letter : FnScope N_Party__is_letter ["self", "letter"] (defScope s_Party__is_letter) := ⟨rfl, rfl, rfl, by decide +kernel, rfl, by decide +kernel, by decide +kernel⟩
theorem ok_is_letter (B : Bt mg) (c : Ca K C) (c_is_integer : Glo P w K mg base "is_integer" 1 ["thing"] (spD K C 1 S_is_integer)) (c_sends : Glo P w K mg base "sends" 1 ["setting", "program", "k", "i", "j"] (spD K C 5 S_sends))
    (F : Fun K "_is_letter" "Party._is_letter" s_Party__is_letter g fd) : FnOk P w K mg base CX0 2 g fd ["self", "letter"] (spD K C 2 S_is_letter) := by
  refine fn_D F sc_Party__is_letter rfl fun cdv A outer s H E G ds d hr hS => ?_
  obtain ⟨a, l, rfl, lo, rfl⟩ := hS
  have nd := sc_Party__is_letter.nd
  refine s_seq (s_unpack (is := [2, 3, 4]) (δ1 := [.dat a.d, .dat (letD a.num l), .dat a.se.d, .dat (progD a.rows), .dat (.int (a.num : Int)), .no, .no, .no, .no, .no]) rfl (x_eq (x_sl (y_own c (x_of (pv 0) rfl)) p_no (p_int x_int)) (congrArg D.tup (cut_own a))) (pgs_cons (pg_name (i := 2) nd rfl (.inl rfl)) (pgs_cons (pg_name (i := 3) nd rfl (.inl rfl)) (pgs_cons (pg_name (i := 4) nd rfl (.inl rfl)) pgs_nil))) (all_lt rfl) rfl rfl) ?_
  refine ss_ifl (k := false) (t_is (PW.pt (w_or (t_not (t_val (x_isi (b := true) rfl B.isinstance rfl B.tuple rfl (by decide +kernel) (by decide) (x_of (pv 1) rfl) rfl (by decide +kernel)))) fun hc => (w_or (t_cmp op_ne rd_neI (x_len rfl B.len (o_tup (x_of (pv 1) rfl))) x_int (nomark _)) fun hc => (w_or1 (t_cmp op_ne rd_neS (x_ixt (x_of (pv 1) rfl) x_int rfl) x_str (nomark _)))))) (by simp)) (fun h => absurd h (by decide)) (fun _ => ?_)
  have hcut : cutD [.str "letter", .int (l.1 : Int), .int (l.2.1 : Int), .int (a.num : Int), .int l.2.2] (some 1) none = [(l.1 : Int), (l.2.1 : Int), (a.num : Int), l.2.2].map D.int := cut1 _ _
  refine ss_ifl (k := false) (t_is (t_cmp op_gt rd_gt (x_len rfl B.len (o_l (o_new (x_lcm (l := [(l.1 : Int), (l.2.1 : Int), (a.num : Int), l.2.2]) (h := D.int) (fun _ => false) D.int (j := 9) rfl nd (lt_ rfl) (le_ rfl) (i_s (i_tup (x_eq (x_sl (x_of (pv 1) rfl) (p_int x_int) p_no) (congrArg D.tup hcut)))) (blkOk_by (N := N_Party__is_letter) (sc := defScope s_Party__is_letter) (by decide +kernel)) (fun _ _ _ _ _ => pg_name (i := 9) nd rfl (.inl rfl))
      (fun z hz _ _ _ _ _ => ts_one (t_is (t_not (t_val (x_call c_is_integer (hr.mono (by decide)) (a_cons (x_of (pv 9) rfl) a_nil) ⟨rfl, z, rfl, rfl⟩))) rfl))
      (fun a ha hb _ _ _ _ _ => (x_of (pv 9) rfl)))))) x_int (nomark _)) rfl) (fun h => absurd h (by decide)) (fun _ => ?_)
  refine s_seq (s_unpack (is := [5, 6, 7, 8]) (ds := [.int (l.1 : Int), .int (l.2.1 : Int), .int (a.num : Int), .int l.2.2]) (δ1 := [.dat a.d, .dat (letD a.num l), .dat a.se.d, .dat (progD a.rows), .dat (.int (a.num : Int)), .dat (.int (l.1 : Int)), .dat (.int (l.2.1 : Int)), .dat (.int (a.num : Int)), .dat (.int l.2.2), .no]) rfl (x_eq (x_sl (x_of (pv 1) rfl) (p_int x_int) p_no) (congrArg D.tup hcut)) (pgs_cons (pg_name (i := 5) nd rfl (.inl rfl)) (pgs_cons (pg_name (i := 6) nd rfl (.inl rfl)) (pgs_cons (pg_name (i := 7) nd rfl (.inl rfl)) (pgs_cons (pg_name (i := 8) nd rfl (.inl rfl)) pgs_nil)))) (all_lt rfl) rfl rfl) ?_
  have h1 := lo.k; have h2 := lo.i1; have h3 := lo.i2; have h4 := lo.x1; have h5 := lo.x2
  refine ss_ifl (k := false) (t_is (PW.pt (w_or (t_not (t_chain op_le op_lt rd_le rd_lt x_int (x_of (pv 5) rfl) (x_len rfl B.len (o_tup (x_ixt (x_of (pv 3) rfl) x_int rfl))))) fun hc => (w_or (t_not (t_chain op_le op_le rd_le rd_le x_int (x_of (pv 6) rfl) (x_ixt (x_of (pv 2) rfl) x_int rfl))) fun hc => (w_or (t_cmp op_ne rd_neI (x_of (pv 7) rfl) (x_of (pv 4) rfl) (nomark _)) fun hc => (w_or1 (t_not (t_chain op_le op_lt rd_le rd_lt x_int (x_of (pv 8) rfl) (x_ixt (x_of (pv 2) rfl) x_int rfl)))))))) ?_) (fun h => absurd h (by decide)) (fun _ => ?_)
  · simp only [List.length_map, decide_eq_true (show (0 : Int) ≤ (l.1 : Int) by omega), decide_eq_true (show (l.1 : Int) < (a.rows.length : Int) by omega), decide_eq_true (show (1 : Int) ≤ (l.2.1 : Int) by omega), decide_eq_true (show (l.2.1 : Int) ≤ (a.se.n : Int) by omega), decide_eq_true (show (0 : Int) ≤ l.2.2 from h4), decide_eq_true (show l.2.2 < a.se.p from h5), decide_eq_true (rfl : (a.num : Int) = (a.num : Int))]
    rfl
  have hk : a.rows[l.1]? = some a.rows[l.1] := List.getElem?_eq_getElem h1
  refine s_one (s_ret (x_call c_sends (hr.mono (by decide)) (a_cons (x_of (pv 2) rfl) (a_cons (x_of (pv 3) rfl) (a_cons (x_of (pv 5) rfl) (a_cons (x_of (pv 6) rfl) (a_cons (x_of (pv 7) rfl) a_nil))))) ⟨rfl, a.se, a.rows, l.1, l.2.1, a.num, _, rfl, hk, ?_⟩))
  rw [lo.s _ hk]
end
end Un
set_option maxHeartbeats 4000000
namespace Un
open PySem L2
section
variable {P : Program} {w : World} {K : PySem.W.Frag} {mg : Str → Option Value} {base : Heap} {C : Addr} {g : Addr} {fd : FuncData}
theorem cut13 (a b c : D) (ds : List D) : cutD (a :: b :: c :: ds) (some 1) (some 3) = [b, c] := by
  have := cutD_mid (a :: b :: c :: ds) 1 3
  exact this
abbrev s_Party_take : Stmt := inClass (top 36) 20
abbrev N_Party_take : List Str := ["self", "letter", "k", "i", "before", "one"]
theorem sc_Party_take : FnScope N_Party_take ["self", "letter"] (defScope s_Party_take) := ⟨rfl, rfl, rfl, by decide +kernel, rfl, by decide +kernel, by decide +kernel⟩
theorem made_thins (a : Pa) (found : List (Option Int)) (n : Nat) : thinDs (madeTo a found n) = true := by have := made_thin a found n; unfold thinD at this; exact this
theorem ok_take (B : Bt mg) (c : Ca K C) (c_is_letter : Mtd P w K mg base C "_is_letter" 2 ["self", "letter"] (spD K C 2 S_is_letter)) (c_made : Prp P w K mg base C "made" 7 (spD K C 1 S_made))
    (F : Fun K "take" "Party.take" s_Party_take g fd) : FnOk P w K mg base CX0 9 g fd ["self", "letter"] (spTake K C) := by
  refine F.ok sc_Party_take (fun vs H Q E h => ?_) (fun cdv A outer s H vs Q E hr h => ?_)
  · obtain ⟨G, p, cs, a, l, lv, rfl, _⟩ := h; rfl
  obtain ⟨G, p, cs, a, l, lv, rfl, gh, ow, z, ok, lo, hn, hz, ht, q⟩ := h
  have nd := sc_Party_take.nd
  have hr : Room 8 (bX P w K mg base N_Party_take "Party.take" s_Party_take g cdv A outer s H E).A := hr
  have hu : (bX P w K mg base N_Party_take "Party.take" s_Party_take g cdv A outer s H E).A.units + 65 < cLine := by have := hr.un; omega
  have ok1 := put_ok ok lo hn
  have ok2 := tk_ok ok1 l
  have ml := fun (b : Pa) (hb : b.Ok) => (show (madeTo b (shTo b b.rows.length) b.rows.length).length ≤ 100000 from by
    have := madeTo_len b (shTo b b.rows.length) b.rows.length (Nat.le_refl _)
    have h1 := hb.rows.1; have h2 := hb.se.n2
    have : b.rows.length * b.se.n ≤ 60 * 5 := Nat.mul_le_mul h1 h2
    omega)
  have pure := fun (b : Pa) => lets_pure (madeTo b (shTo b b.rows.length) b.rows.length) fun d hd => made_mem hd
  have body : ∀ (N : List Sl → Pa → Prop), PSs (bX P w K mg base N_Party_take "Party.take" s_Party_take g cdv A outer s H E) (defBody s_Party_take) (tPh K C 0 G H p cs [.dat a.d, .dat (letD a.num l), .no, .no, .no, .no] a N (fun v H' => ∃ d G', True ∧ Ph K C G H p cs (a.take l) G' H' ∧ Dat K C (ext G' H' p cs) d v)) := fun N => by
    refine ph_seq (ph_if0 fun G H => t_is (t_not (t_val (x_meth c.cl c_is_letter (hr.mono (by decide)) (x_of (pv 0) rfl) (f_no (by decide +kernel) a) (a_cons (x_of (pv 1) rfl) a_nil) ⟨rfl, a, l, rfl, lo, rfl⟩))) rfl) ?_
    refine ph_seq (ph_unpack (is := [2, 3]) (ds := [.int (l.1 : Int), .int (l.2.1 : Int)]) (δ1 := [.dat a.d, .dat (letD a.num l), .dat (.int (l.1 : Int)), .dat (.int (l.2.1 : Int)), .no, .no]) rfl (fun G H => x_eq (x_sl (x_of (pv 1) rfl) (p_int x_int) (p_int x_int)) (congrArg D.tup (cut13 _ _ _ _))) (pgs_cons (pg_name (i := 2) nd rfl (.inl rfl)) (pgs_cons (pg_name (i := 3) nd rfl (.inl rfl)) pgs_nil)) (all_lt rfl) (by decide) rfl rfl) ?_
    refine ph_seq (ph_if0 fun G H => t_is (t_din (hu_of hr) (k := Sum.inl ((l.2.1 : Nat) : Int)) (x_of (pv 3) rfl) (x_ixt (y_came c (x_of (pv 0) rfl)) (x_of (pv 2) rfl) (came_at ok lo.k))) (by rw [valD_cam, hn]; rfl)) ?_
    refine ph_seq (ph_set (i := 4) (d := .tup (madeTo a (shTo a a.rows.length) a.rows.length)) nd rfl (.inr rfl) (lt_ rfl) (by decide) (fun G H => x_prop c.cl c_made hr (x_of (pv 0) rfl) ⟨a, rfl, ok, rfl⟩) rfl) ?_
    refine ph_seq (ph_dput (k := l.1) (i := l.2.1) (x := l.2.2) c (hu_of hr) (pv 0) (fun G H => x_of (pv 2) rfl) (fun G H => x_of (pv 3) rfl) (fun G H => x_ixt (x_of (pv 1) rfl) x_int rfl) (by rw [ok.cal]; exact lo.k) hn hz (lt_ rfl) (by
      show ([Sl.no, .dat (letD a.num l), .dat (.int (l.1 : Int)), .dat (.int (l.2.1 : Int)), .dat (.tup (madeTo a (shTo a a.rows.length) a.rows.length)), .no] : List Sl).all slThin = true
      simp [slThin, made_thins, let_thin, thinD]) rfl) ?_
    refine ph_seq (ph_tk (l := l) c (pv 0) (fun G H => x_eq (x_cat (by simp; show a.took.length + 1 ≤ _; have : (1001 : Nat) ≤ sizeLine := by decide
                                                                       omega) (y_took c (x_of (pv 0) rfl)) (x_tup (a_cons (x_of (pv 1) rfl) a_nil))) (by unfold Pa.tk; simp only [List.map_append]; rfl)) (by
      unfold thinD; exact thin_map _ (let_thin _) _) (lt_ rfl) (by
      show ([Sl.no, .dat (letD a.num l), .dat (.int (l.1 : Int)), .dat (.int (l.2.1 : Int)), .dat (.tup (madeTo a (shTo a a.rows.length) a.rows.length)), .no] : List Sl).all slThin = true
      simp [slThin, made_thins, let_thin, thinD]) rfl) ?_
    refine pss_one (ph_ret (P := fun _ => True) fun G H => x_weak (x_tuple rfl B.tuple (o_new (x_lcm (l := madeTo ((a.put l.1 l.2.1 l.2.2).tk l) (shTo ((a.put l.1 l.2.1 l.2.2).tk l) ((a.put l.1 l.2.1 l.2.2).tk l).rows.length) ((a.put l.1 l.2.1 l.2.2).tk l).rows.length) (h := fun d => d) (fun d => !(pysD (madeTo a (shTo a a.rows.length) a.rows.length)).any fun z => PyData.eqv z (pyD d)) (fun d => d) (j := 5) rfl nd (lt_ rfl) (ml _ ok2) (i_s (i_tup (x_eq (x_prop c.cl c_made hr (x_of (pv 0) rfl) ⟨_, rfl, ok2, rfl⟩) (by rw [List.map_id'])))) (blkOk_by (N := N_Party_take) (sc := defScope s_Party_take) (by decide +kernel)) (fun _ _ _ _ _ => pg_name (i := 5) nd rfl (.inl rfl))
      (fun d hd _ _ _ _ _ => ts_one (t_ninT hu (x_of (pv 5) rfl) (x_of (pv 4) rfl) (by obtain ⟨m, x, rfl⟩ := made_mem hd; exact let_ok m x) (pure a).1 (pure a).2))
      (fun d hd hb _ _ _ _ _ => (x_of (pv 5) rfl))))) fun _ _ => True.intro)
  refine ⟨_, body (fun _ _ => False), G, ⟨gh, ow, Sub.refl _, fun _ _ _ _ h => h, fun _ _ h => h⟩, ?_, fun _ _ _ _ _ f => f.elim, ?_⟩
  · refine ⟨rfl, fun i => ?_, rfl⟩
    match i with
    | 0 => exact ⟨_, rfl, ow.dat⟩
    | 1 => exact ⟨_, rfl, z.mono ow.sub⟩
    | 2 => exact True.intro
    | 3 => exact True.intro
    | 4 => exact True.intro
    | 5 => exact True.intro
    | n + 6 => exact True.intro
  · rintro v H' ⟨d, G', _, ph, _⟩
    exact q v G' H' ph
end
end Un
set_option maxHeartbeats 4000000
namespace Un
open PySem L2
/-! Party.__init__ -/
def gFld (K : PySem.W.Frag) (ta : TE) (f : Str) : TG := fun v σ H Q => ta σ H fun x H2 => ∃ a C dx fs, x = V.ref a ∧ H2 a = some (.ins C dx fs) ∧ Cls K C ∧ NoAttr K C f ∧ fs.length < 1000 ∧ Q σ (upd H2 a (.ins C dx (putF f v fs)))
section
variable {X : Cx}
theorem pg_fld {o : Expr} {f : Str} {pos : Pos} {ta : TE} (ho : PE X o ta) : PG X (.Attribute o f pos) (gFld X.K ta f) := by
  refine ⟨fun pins s σ H v u Q I r h => ?_⟩
  rw [assign_Attribute]
  refine wpAny_bind (wpAny_holding (thn (ho.run pins s σ H _ I h) fun ov s1 ⟨x, H1, I1, rx, a, C, dx, fs, ex, ea, c, n, l, q⟩ => ?_))
  subst ex
  obtain rfl : ov = Value.ref a := rx
  refine wpAny_bind (wpAny_standAt (wpAny_bind (wpAny_holding (setattr_ok I1 ea c n l r fun s3 I3 => ?_))))
  exact wpAny_release ⟨σ, _, I3, q⟩
end
def noF (f : Str) (fs : List (Str × D)) : Bool := fs.all fun x => !(x.1 == f)
theorem putF_new {K : PySem.W.Frag} {C : Addr} {G : Hp} {f : Str} {v : V} : ∀ {fs : List (Str × D)} {ys : List (Str × V)}, Datf K C G fs ys → noF f fs = true → putF f v ys = ys ++ [(f, v)]
  | [], _, z, _ => by rw [z.inv0]; rfl
  | (g, d) :: fs, _, z, h => by
    obtain ⟨x, r, rfl, z1, z2⟩ := z.inv
    unfold noF at h
    rw [List.all_cons] at h
    obtain ⟨h1, h2⟩ := Bool.and_eq_true_iff.mp h
    have ne : ¬ g = f := fun e => by subst e; simp at h1
    rw [putF_ne ne, putF_new z2 h2]; rfl
theorem datf_len {K : PySem.W.Frag} {C : Addr} {G : Hp} : ∀ {fs : List (Str × D)} {ys : List (Str × V)}, Datf K C G fs ys → ys.length = fs.length
  | [], _, z => by rw [z.inv0]; rfl
  | (g, d) :: fs, _, z => by
    obtain ⟨x, r, rfl, z1, z2⟩ := z.inv
    rw [List.length_cons, List.length_cons, datf_len z2]
structure In0 (K : PySem.W.Frag) (C : Addr) (G0 H0 : Hp) (p : Addr) (fs : List (Str × D)) (G H : Hp) : Prop where
  sub : Sub G H
  ins : ∃ dx ys, H p = some (.ins C dx ys) ∧ Datf K C G fs ys
  gp : G p = none
  gg : Sub G0 G
  hh : ∀ x o, x ≠ p → H0 x = some o → H x = some o
  fr : ∀ x, H0 x ≠ none → G x ≠ none → G0 x ≠ none
section
variable {K : PySem.W.Frag} {C : Addr} {G H G0 H0 G' H' : Hp} {p : Addr} {fs : List (Str × D)}
theorem In0.next (n : In0 K C G0 H0 p fs G H) (t : Step (pf C G H) G H G' H') : In0 K C G0 H0 p fs G' H' := by
  have tp : PStep G H G' H' := t.p
  obtain ⟨dx, ys, e, z⟩ := n.ins
  refine ⟨tp.gh, ⟨dx, ys, tp.hh _ _ e, z.mono tp.gg⟩, ?_, n.gg.trans tp.gg, fun x o h1 h2 => tp.hh _ _ (n.hh x o h1 h2), fun x h1 h2 => ?_⟩
  · cases q : G' p with
    | none => rfl
    | some o => exact absurd n.gp (tp.fr p (ne_none e) (ne_none q))
  · by_cases e2 : x = p
    · subst e2; exact absurd n.gp (tp.fr x (ne_none e) h2)
    · cases q : H0 x with
      | none => exact absurd q h1
      | some o => exact n.fr x h1 (tp.fr x (ne_none (n.hh x o e2 q)) h2)
theorem In0.put (n : In0 K C G0 H0 p fs G H) {f : Str} {d : D} {v : V} (z : Dat K C G d v) (hf : noF f fs = true) : ∃ dx ys, H p = some (.ins C dx ys) ∧ ys.length = fs.length ∧ In0 K C G0 H0 p (fs ++ [(f, d)]) G (upd H p (.ins C dx (putF f v ys))) := by
  obtain ⟨dx, ys, e, y⟩ := n.ins
  refine ⟨dx, ys, e, datf_len y, ⟨fun b o h => ?_, ⟨dx, _, upd_same, ?_⟩, n.gp, n.gg, fun b o h1 h2 => ?_, n.fr⟩⟩
  · rw [upd_ne (fun q => by rw [q, n.gp] at h; cases h)]; exact n.sub b o h
  · rw [putF_new y hf]; exact Datf.app y (datf_cons z datf_nil)
  · rw [upd_ne h1]; exact n.hh b o h1 h2
end
def tIn (K : PySem.W.Frag) (C : Addr) (ip : Nat) (G0 H0 : Hp) (p : Addr) (δ : List Sl) (fs : List (Str × D)) (N : List (Str × D) → Prop) : TS := fun Dn σ H =>
  ∃ G, In0 K C G0 H0 p fs G H ∧ Sls K C G p ip σ δ ∧ ∀ fs' σ' G' H', N fs' → In0 K C G0 H0 p fs' G' H' → Sls K C G' p ip σ' δ → Dn.nx σ' H'
section
variable {X : Cx} {C : Addr} {ip : Nat} {G0 H0 : Hp} {p : Addr} {δ : List Sl} {fs : List (Str × D)}
theorem in_seq {st : Stmt} {rest : List Stmt} {fs1 : List (Str × D)} {T : TS} (h1 : PS X st (tIn X.K C ip G0 H0 p δ fs (fun e => e = fs1))) (h2 : PSs X rest T) :
    PSs X (st :: rest) (fun Dn σ H => ∃ G, In0 X.K C G0 H0 p fs G H ∧ Sls X.K C G p ip σ δ ∧ ∀ σ' G' H', In0 X.K C G0 H0 p fs1 G' H' → Sls X.K C G' p ip σ' δ → T Dn σ' H') :=
  pss_imp (pss_cons h1 h2) fun Dn σ H ⟨G, n, sl, q⟩ => ⟨G, n, sl, fun fs' σ' G' H' e n' sl' => by subst e; exact q σ' G' H' n' sl'⟩
theorem in_fld {o e : Expr} {f : Str} {pos' pos : Pos} {d : D} {fs1 : List (Str × D)} (c : Cls X.K C) (na : NoAttr X.K C f) (ho : PE X o (tVar ip)) (he : ∀ G H, PE X e (tD X.K (pf C G H) δ d)) (hf : noF f fs = true) (hl : fs.length < 1000) (h1 : fs ++ [(f, d)] = fs1)
    (hs : swapsWith e (some (.Attribute o f pos')) pos.line X.env = pure false := by rfl) :
    PS X (.Assign [.Attribute o f pos'] e pos) (tIn X.K C ip G0 H0 p δ fs (fun e => e = fs1)) :=
  ⟨fun pins s σ H Dn I ⟨G, n, sl, q⟩ => (ps_fld ho (he G H) hs).run pins s σ H Dn I ⟨G, sl.rep n.sub, fun v d' G1 H1 t1 e1 z1 => by
    subst e1
    obtain ⟨dx, ys, e, l, n2⟩ := (n.next t1).put (f := f) z1 hf
    exact ⟨_, sAt_some sl.pin, p, C, dx, ys, rfl, e, c, na, by rw [l]; exact hl, q _ σ G1 _ h1 n2 (sl.mono t1.gg)⟩⟩⟩
theorem in_fld2 {o1 o2 e : Expr} {f1 f2 : Str} {p1 p2 pos' pos : Pos} {k : Nat} {d1 d2 : D} {fs1 : List (Str × D)} (hc : X.calm = true) (c : Cls X.K C) (n1 : NoAttr X.K C f1) (n2 : NoAttr X.K C f2) (ho1 : PE X o1 (tVar ip)) (ho2 : PE X o2 (tVar ip)) (he : ∀ G H, PE X e (tD X.K (pf C G H) δ (.tup [d1, d2])))
    (hf1 : noF f1 fs = true) (hf2 : noF f2 (fs ++ [(f1, d1)]) = true) (hl : fs.length < 900) (h1 : (fs ++ [(f1, d1)]) ++ [(f2, d2)] = fs1)
    (hs : swapsWithSole [.Tuple [.Attribute o1 f1 p1, .Attribute o2 f2 p2] k pos'] e pos.line X.env = pure false := by rfl) (hw : swappedStores [.Tuple [.Attribute o1 f1 p1, .Attribute o2 f2 p2] k pos'] e X.env = pure none := by rfl)
    (h2 : (assignEach [.Tuple [.Attribute o1 f1 p1, .Attribute o2 f2 p2] k pos'] X.env).map (·.2) = [assign (.Tuple [.Attribute o1 f1 p1, .Attribute o2 f2 p2] k pos') X.env] := by rfl) :
    PS X (.Assign [.Tuple [.Attribute o1 f1 p1, .Attribute o2 f2 p2] k pos'] e pos) (tIn X.K C ip G0 H0 p δ fs (fun e => e = fs1)) :=
  ⟨fun pins s σ H Dn I ⟨G, n, sl, q⟩ => (ps_asg (he G H) (pg_tup (n := 2) hc (pgs_cons (pg_fld ho1) (pgs_cons (pg_fld ho2) pgs_nil))) hs hw h2).run pins s σ H Dn I ⟨G, sl.rep n.sub, fun v d' G1 H1 t1 e1 z1 => by
    subst e1
    obtain ⟨a, xs, rfl, s1, z⟩ := z1.tup_inv
    obtain ⟨x1, r1, rfl, y1, z⟩ := z.inv
    obtain ⟨x2, r2, rfl, y2, z⟩ := z.inv
    have z := z.inv0
    subst z
    obtain ⟨dx, ys, e, l, m1⟩ := (n.next t1).put (f := f1) y1 hf1
    obtain ⟨dx2, ys2, e2, l2, m2⟩ := m1.put (f := f2) y2 hf2
    exact ⟨a, [x1, x2], rfl, t1.gh.sqT s1, rfl, x1, [x2], rfl, _, sAt_some sl.pin, p, C, dx, ys, rfl, e, c, n1, by rw [l]; omega, x2, [], rfl, _, sAt_some sl.pin, p, C, dx2, ys2, rfl, e2, c, n2, by rw [l2, List.length_append, List.length_singleton]; omega, rfl, q _ σ G1 _ h1 m2 (sl.mono t1.gg)⟩⟩⟩
/-- [{} for x in e] -/
def tCl (K : PySem.W.Frag) (f : Fm) (δ : List Sl) (n : Nat) : TE := fun σ H Q => ∃ G, Rep K f σ δ G H ∧ ∀ (Dl : Addr) (cs : List Addr) (G' H' : Hp), Step f G H G' H' → cs.length = n → cs.Nodup → (∀ c ∈ cs, H c = none ∧ G' c = none ∧ ¬ f.M c ∧ H' c = some (.dK [])) → H' Dl = some (.lst (cs.map V.ref)) → Q (.ref Dl) H'
variable {f : Fm}
theorem cl_read {K : PySem.W.Frag} {j : Nat} {ds : List D} (hj : j < δ.length) (hz : ds.length ≤ 100000) {σ : L2.St} {H : Hp} {Q : VK} (h : tCl K f δ ds.length σ H Q) :
    tLc (tIs K f δ fun e => e = ds) (gName j) (fun σ H Q => Q true H) tDNewK [j] σ H Q := by
  obtain ⟨G, rp, q⟩ := h
  refine ⟨G, rp, fun J ds' G1 H1 t1 p1 it Dl hDl => ?_⟩
  subst p1
  have rp1 := rp.step t1
  obtain ⟨hH, hM⟩ := rp.back t1 hDl
  have hG1 : G1 Dl = none := t1.gh.none hDl
  refine ⟨fun i m H' => i + m = ds'.length ∧ ∃ (cs : List Addr) (G' : Hp), Step f G1 H1 G' H' ∧ H' Dl = some (.lst (cs.map V.ref)) ∧ G' Dl = none ∧ cs.length = i ∧ cs.Nodup ∧ (∀ c ∈ cs, H c = none ∧ G' c = none ∧ ¬ f.M c ∧ H' c = some (.dK []) ∧ c ≠ Dl),
    ⟨ds'.length, by omega, [], G1, rp1.stepNew hDl, upd_same, hG1, rfl, List.nodup_nil, fun c h => by cases h⟩, ?_⟩
  rintro i m H' ⟨him, cs, G', t, hx, hg, hl, nd, hc⟩
  cases m with
  | zero =>
    exact .inl ⟨by have := (it G' H' t).2; rwa [show i = ds'.length by omega], q Dl cs G' H' (t1.trans t) (by omega) nd (fun c h => ⟨(hc c h).1, (hc c h).2.1, (hc c h).2.2.1, (hc c h).2.2.2.1⟩) hx⟩
  | succ m =>
    have l : i < ds'.length := by omega
    have hget : ds'[i]? = some ds'[i] := List.getElem?_eq_getElem l
    obtain ⟨go, yl⟩ := (it G' H' t).1 i _ hget
    refine .inr ⟨go, fun H2 => ∃ m', m' < m + 1 ∧ i + 1 + m' = ds'.length ∧ ∃ (cs : List Addr) (G' : Hp), Step f G1 H1 G' H2 ∧ H2 Dl = some (.lst (cs.map V.ref)) ∧ G' Dl = none ∧ cs.length = i + 1 ∧ cs.Nodup ∧ (∀ c ∈ cs, H c = none ∧ G' c = none ∧ ¬ f.M c ∧ H2 c = some (.dK []) ∧ c ≠ Dl), fun H2 h2 => h2, fun x H3 hy => ?_⟩
    obtain ⟨rfl, zd⟩ := yl x H3 hy
    show wipe ((wipe σ [j]).set j (some x)) [j] = wipe σ [j] ∧ _
    have es : (wipe σ [j]).set j (some x) = σ.set j (some x) := by show (σ.set j none).set j (some x) = _; rw [List.set_set]
    refine ⟨by rw [es]; show (σ.set j (some x)).set j none = σ.set j none; rw [List.set_set], ?_⟩
    refine iteT fun b hb => ?_
    have rpt := rp1.step t
    have t2 := rpt.stepNew (o := .dK []) hb
    obtain ⟨b1, b2⟩ := rp.back (t1.trans t) hb
    have bD : b ≠ Dl := fun e => by rw [e, hx] at hb; cases hb
    refine ⟨cs.map V.ref, by rw [upd_ne (fun e => bD e.symm)]; exact hx, by rw [List.length_map, hl]; exact Nat.lt_of_lt_of_le (show i < 100001 by omega) (by decide), m, by omega, by omega, cs ++ [b], G', ((t.trans t2).hid hDl hg hM), by rw [upd_same, List.map_append]; rfl, hg, by rw [List.length_append, hl]; rfl, ?_, fun c hm => ?_⟩
    · refine List.nodup_append.mpr ⟨nd, by simp, fun x hx y hy e => ?_⟩
      rw [List.mem_singleton.mp hy] at e
      subst e
      rw [(hc x hx).2.2.2.1] at hb; cases hb
    · rcases List.mem_append.mp hm with hm | hm
      · obtain ⟨h1, h2, h3, h4, h5⟩ := hc c hm
        exact ⟨h1, h2, h3, by rw [upd_ne h5, upd_ne (fun e => by rw [e, hb] at h4; cases h4)]; exact h4, h5⟩
      · rw [List.mem_singleton.mp hm]
        exact ⟨b1, t.gh.none hb, b2, by rw [upd_ne bD, upd_same], bD⟩
end
end Un
set_option maxHeartbeats 4000000
namespace Un
open PySem L2
def newPa (se : Se) (rows : List Row) (num : Nat) (inputs coins : List Int) : Pa := ⟨se, rows, num, inputs, coins, [], rows.map fun _ => []⟩
theorem nof {f : Str} {fs : List (Str × D)} (ns : List Str) (h : fs.map (·.1) = ns) (h2 : ns.all (fun x => !(x == f)) = true) : noF f fs = true := by
  subst h
  unfold noF
  rw [List.all_map] at h2
  exact h2
structure Born (K : PySem.W.Frag) (C : Addr) (G0 H0 : Hp) (p : Addr) (cs : List Addr) (a : Pa) (G H : Hp) : Prop where
  sub : Sub G H
  own : OwnP K C G H p cs a
  gg : Sub G0 G
  hh : ∀ x o, x ≠ p → H0 x = some o → H x = some o
  fr : ∀ x, H0 x ≠ none → G x ≠ none → G0 x ≠ none
  new : ∀ c ∈ cs, H0 c = none
def spInit (K : PySem.W.Frag) (C : Addr) : Sp := fun vs H Q _ => ∃ (G : Hp) (p dx : Addr) (xs : List V) (se : Se) (rows : List Row) (num : Nat) (inputs coins : List Int), vs = .ref p :: xs ∧ Sub G H ∧ H p = some (.ins C dx []) ∧ G p = none ∧
  Dats K C G [se.d, progD rows, .int (num : Int), .tup (inz inputs), .tup (inz coins)] xs ∧ (newPa se rows num inputs coins).Ok ∧ ∀ cs G' H', Born K C G H p cs (newPa se rows num inputs coins) G' H' → Q .non H'
section
variable {X : Cx} {f : Fm} {δ : List Sl} {C : Addr} {ip : Nat} {G0 H0 : Hp} {p : Addr} {fs : List (Str × D)}
def tCt (K : PySem.W.Frag) (f : Fm) (δ : List Sl) (n : Nat) : TE := fun σ H Q => ∃ G, Rep K f σ δ G H ∧ ∀ (tc : Addr) (cs : List Addr) (G' H' : Hp), Step f G H G' H' → cs.length = n → cs.Nodup → (∀ c ∈ cs, H c = none ∧ G' c = none ∧ H' c = some (.dK [])) → SqT K G' tc (cs.map V.ref) → Q (.ref tc) H'
def tIr (K : PySem.W.Frag) (C : Addr) (ip : Nat) (G0 H0 : Hp) (p : Addr) (δ : List Sl) (fs : List (Str × D)) (a : Pa) : TS := fun Dn σ H => ∃ G, In0 K C G0 H0 p fs G H ∧ Sls K C G p ip σ δ ∧ ∀ σ' cs G' H', Born K C G0 H0 p cs a G' H' → Dn.nx σ' H'
theorem ir_seq {st : Stmt} {rest : List Stmt} {fs1 : List (Str × D)} {a : Pa} (h1 : PS X st (tIn X.K C ip G0 H0 p δ fs (fun e => e = fs1))) (h2 : PSs X rest (tIr X.K C ip G0 H0 p δ fs1 a)) :
    PSs X (st :: rest) (tIr X.K C ip G0 H0 p δ fs a) :=
  pss_imp (pss_cons h1 h2) fun Dn σ H ⟨G, n, sl, q⟩ => ⟨G, n, sl, fun fs' σ' G' H' e n' sl' => by subst e; exact ⟨G', n', sl', q⟩⟩
/-- tuple([{} for x in e]) -/
theorem x_cts {j : Nat} {xn : Str} {px q1 q2 dp pos : Pos} {iter : Expr} {scope : Scope} {ds : List D} (hg' : Gl X "tuple") (hm : X.mg "tuple" = none) (hc : X.calm = true) (hN : X.N.Nodup) (hj : j < δ.length) (hz : ds.length ≤ 100000) (hi : PI X (.Name xn px) iter (tIs X.K f δ fun e => e = ds)) (ok : BlkOk X.N X.env.scope scope [(xn, j)])
    (hg : ∀ (s : Shared) (H : Hp) (C : Addr) (cl : List (Str × Addr)) (fp : List Addr), PG (X.blk s H scope (compEnvC scope cl C X.env) fp) (.Name xn px) (gName j))
    (hf : ∀ x, foldedSetIterable iter X.env x = pure x := by intro _; rfl) (na : starEach [.ListComp (.Dict [] [] dp) [⟨.Name xn px, iter, [], 0⟩] scope q2] X.env = (false, eval (.ListComp (.Dict [] [] dp) [⟨.Name xn px, iter, [], 0⟩] scope q2) X.env) :: starEach [] X.env := by rfl) :
    PE X (.Call (.Name "tuple" q1) [.ListComp (.Dict [] [] dp) [⟨.Name xn px, iter, [], 0⟩] scope q2] [] pos) (tCt X.K f δ ds.length) :=
  pe_imp (pe_tupleOf hg' hm (pe_imp (pe_lc (own := [(xn, j)]) hc hN hi ok hg (fun _ _ _ _ _ => pts_nil) (fun _ _ _ _ _ => pe_dnewK) hf) (t' := tCl X.K f δ ds.length) fun σ H Q h => cl_read hj hz h) na) fun σ H Q ⟨G, rp, q⟩ => ⟨G, rp, fun Dl cs G' H' t hl nd hcs hD => .inl ⟨Dl, _, rfl, SqL.of hD, fun w hw => by
    have t2 := (rp.step t).stepNewG (o := .tup (cs.map V.ref)) hw
    refine q w cs _ _ (t.trans t2) hl nd (fun c hc => ?_) (SqT.of upd_same)
    obtain ⟨h1, h2, h3, h4⟩ := hcs c hc
    have ne : c ≠ w := fun e => by rw [e, hw] at h4; cases h4
    exact ⟨h1, by rw [upd_ne ne]; exact h2, by rw [upd_ne ne]; exact h4⟩⟩⟩
/-- self._came = .. -/
theorem in_came {o e : Expr} {pos' pos : Pos} {a : Pa} (c : Ca X.K C) (ho : PE X o (tVar ip)) (he : ∀ G H, PE X e (tCt X.K (pf C G H) δ a.came.length)) (hca : ∀ k, a.came.getD k [] = []) (h0 : H0 p ≠ none)
    (hs : swapsWith e (some (.Attribute o "_came" pos')) pos.line X.env = pure false := by rfl) :
    PS X (.Assign [.Attribute o "_came" pos'] e pos) (tIr X.K C ip G0 H0 p δ a.fs5 a) :=
  ⟨fun pins s σ H Dn I ⟨G, n, sl, q⟩ => (ps_fld ho (he G H) hs).run pins s σ H Dn I ⟨G, sl.rep n.sub, fun tc cs G1 H1 t1 hl nd hcs st => by
    have n1 := n.next t1
    obtain ⟨dx, ys, e, z⟩ := n1.ins
    have hlen := datf_len z
    have hpn : ∀ c ∈ cs, c ≠ p := fun c hc e2 => by
      have := (hcs c hc).2.2
      rw [e2, e] at this; cases this
    refine ⟨_, sAt_some sl.pin, p, C, dx, ys, rfl, e, c.cl, c.came, by rw [hlen]; exact Nat.le_of_ble_eq_true rfl, q σ cs G1 _ ⟨fun b o h => ?_, ⟨⟨dx, ys, tc, ?_, z, st⟩, n1.gp, hl, nd, fun k b hb => ?_⟩, n1.gg, fun b o h1 h2 => ?_, n1.fr, fun b hb => ?_⟩⟩
    · rw [upd_ne (fun q => by rw [q, n1.gp] at h; cases h)]; exact n1.sub b o h
    · rw [upd_same, putF_new z (nof ["_own", "_given", "_drawn", "_weighed", "_took"] rfl (by decide +kernel))]
    · have hm := List.mem_of_getElem? hb
      rw [hca k]
      exact ⟨by rw [upd_ne (hpn b hm)]; exact (hcs b hm).2.2, (hcs b hm).2.1⟩
    · rw [upd_ne h1]; exact n1.hh b o h1 h2
    · cases q : H0 b with
      | none => rfl
      | some o =>
        have := (hcs b hb).1
        rw [n.hh b o (hpn b hb) q] at this; cases this⟩⟩
end
section
variable {P : Program} {w : World} {K : PySem.W.Frag} {mg : Str → Option Value} {base : Heap} {C : Addr} {g : Addr} {fd : FuncData}
abbrev s_Party___init__ : Stmt := inClass (top 36) 0
abbrev N_Party___init__ : List Str := ["self", "setting", "program", "number", "inputs", "coins", "row"]
theorem sc_Party___init__ : FnScope N_Party___init__ ["self", "setting", "program", "number", "inputs", "coins"] (defScope s_Party___init__) := ⟨rfl, rfl, rfl, by decide +kernel, rfl, by decide +kernel, by decide +kernel⟩
theorem pts_small {n : Nat} (h : n ≤ 5) : Small (pts n) := ⟨by rw [pts_len]; omega, fun z hz => by
  unfold pts at hz
  obtain ⟨i, hi, rfl⟩ := List.mem_map.mp hz
  have := List.mem_range.mp hi
  omega⟩
theorem ok_init (B : Bt mg) (c : Ca K C) (c_by_rows : Glo P w K mg base "by_rows" 1 ["setting", "program", "number", "inputs", "coins"] (spD K C 5 S_by_rows)) (c_parties : Glo P w K mg base "parties" 1 ["setting"] (spD K C 1 S_parties))
    (c_weights : Glo P w K mg base "weights" 5 ["p", "points", "x"] (spD K C 3 S_weights)) (F : Fun K "__init__" "Party.__init__" s_Party___init__ g fd) : FnOk P w K mg base CX0 6 g fd ["self", "setting", "program", "number", "inputs", "coins"] (spInit K C) := by
  refine F.ok sc_Party___init__ (fun vs H Q E h => ?_) (fun cdv A outer s H vs Q E hr h => ?_)
  · obtain ⟨G, p, dx, xs, se, rows, num, inputs, coins, rfl, _, _, _, z, _⟩ := h
    rw [List.length_cons, ← z.len]; rfl
  obtain ⟨G, p, dx, xs, se, rows, num, inputs, coins, rfl, gh, hp, gp, z, ok, q⟩ := h
  have nd := sc_Party___init__.nd
  have hr : Room 5 (bX P w K mg base N_Party___init__ "Party.__init__" s_Party___init__ g cdv A outer s H E).A := hr
  have hz : rows.length ≤ 60 := ok.rows.1
  have sok : se.Ok := ok.se
  have n2 := sok.n2; have p2 := sok.p2; have p3 := sok.p3
  have hcm : (newPa se rows num inputs coins).came.length = (rows.map Row.d).length := by rw [List.length_map]; exact List.length_map ..
  have hrm : (rows.map Row.d).length ≤ 100000 := by rw [List.length_map]; omega
  have body : PSs (bX P w K mg base N_Party___init__ "Party.__init__" s_Party___init__ g cdv A outer s H E) (defBody s_Party___init__) (tIr K C 0 G H p [.no, .dat se.d, .dat (progD rows), .dat (.int (num : Int)), .dat (.tup (inz inputs)), .dat (.tup (inz coins)), .no] [] (newPa se rows num inputs coins)) := by
    refine ir_seq (in_fld c.cl c.own (pv 0) (fun G H => x_tup (a_cons (x_of (pv 1) rfl) (a_cons (x_of (pv 2) rfl) (a_cons (x_of (pv 3) rfl) (a_cons (x_of (pv 4) rfl) (a_cons (x_of (pv 5) rfl) a_nil)))))) rfl (Nat.le_of_ble_eq_true rfl) rfl) ?_
    refine ir_seq (in_fld2 rfl c.cl c.given c.drawn (pv 0) (pv 0) (fun G H => x_call c_by_rows (hr.mono (by decide)) (a_cons (x_of (pv 1) rfl) (a_cons (x_of (pv 2) rfl) (a_cons (x_of (pv 3) rfl) (a_cons (x_of (pv 4) rfl) (a_cons (x_of (pv 5) rfl) a_nil))))) ⟨rfl, se, rows, num, inputs, coins, rfl, by omega, ok.inl, rfl⟩) (nof ["_own"] rfl (by decide +kernel)) (nof ["_own", "_given"] rfl (by decide +kernel)) (Nat.le_of_ble_eq_true rfl) rfl) ?_
    refine ir_seq (in_fld c.cl c.weighed (pv 0) (fun G H => x_call c_weights hr (a_cons (x_ixt (x_of (pv 1) rfl) x_int rfl) (a_cons (x_call c_parties (hr.mono (by decide)) (a_cons (x_of (pv 1) rfl) a_nil) ⟨rfl, se, rfl, sok, rfl⟩) (a_cons x_int a_nil))) ⟨rfl, se.p, pts se.n, 0, rfl, by omega, pts_small n2, rfl⟩) (nof ["_own", "_given", "_drawn"] rfl (by decide +kernel)) (Nat.le_of_ble_eq_true rfl) rfl) ?_
    refine ir_seq (in_fld c.cl c.took (pv 0) (fun G H => x_tup a_nil) (nof ["_own", "_given", "_drawn", "_weighed"] rfl (by decide +kernel)) (Nat.le_of_ble_eq_true rfl) rfl) ?_
    show PSs _ _ (tIr K C 0 G H p _ (newPa se rows num inputs coins).fs5 _)
    refine pss_one (in_came c (pv 0) (fun G H => by rw [hcm]; exact x_cts (j := 6) rfl B.tuple rfl nd (lt_ rfl) hrm (i_s (i_tup (x_ixt (x_of (pv 2) rfl) x_int rfl))) (blkOk_by (N := N_Party___init__) (sc := defScope s_Party___init__) (by decide +kernel)) (fun _ _ _ _ _ => pg_name (i := 6) nd rfl (.inl rfl))) (fun k => ?_) (by rw [hp]; exact fun z => by cases z))
    show (rows.map fun _ => ([] : Came)).getD k [] = []
    rw [List.getD_eq_getElem?_getD, List.getElem?_map]
    cases rows[k]? <;> rfl
  refine ⟨_, body, G, ⟨gh, ⟨dx, [], hp, datf_nil⟩, gp, Sub.refl _, fun _ _ _ h => h, fun _ _ h => h⟩, ?_, fun σ' cs G' H' b => q cs G' H' b⟩
  obtain ⟨x1, r1, rfl, z1, z⟩ := z.inv
  obtain ⟨x2, r2, rfl, z2, z⟩ := z.inv
  obtain ⟨x3, r3, rfl, z3, z⟩ := z.inv
  obtain ⟨x4, r4, rfl, z4, z⟩ := z.inv
  obtain ⟨x5, r5, rfl, z5, z⟩ := z.inv
  rw [z.inv0]
  refine ⟨rfl, fun i => ?_, rfl⟩
  match i with
  | 0 => exact True.intro
  | 1 => exact ⟨_, rfl, z1⟩
  | 2 => exact ⟨_, rfl, z2⟩
  | 3 => exact ⟨_, rfl, z3⟩
  | 4 => exact ⟨_, rfl, z4⟩
  | 5 => exact ⟨_, rfl, z5⟩
  | 6 => exact True.intro
  | n + 7 => exact True.intro
end
end Un
set_option maxHeartbeats 4000000
namespace Un
open PySem L2 TL
/-! texts -/
def numS (n : Int) : Str := Str.ofString (toString n)
def lineS (w : Str) (ns : List Int) : Str := Txt.join " " (w :: ns.map numS)
def textS (ls : List Str) : Str := Txt.join "" (ls.map fun l => l ++ "\n")
theorem joinL_nil : ∀ l : List (List Nat), joinL [] l = l.flatten
  | [] => rfl
  | [x] => by show x = (x ++ []); rw [List.append_nil]
  | x :: z :: r => by show x ++ ([] ++ joinL [] (z :: r)) = x ++ (z :: r).flatten; rw [joinL_nil (z :: r)]; rfl
theorem joinL_snoc (S : List Nat) : ∀ l : List (List Nat), joinL S (l ++ [[]]) = (l.map fun x => x ++ S).flatten
  | [] => rfl
  | [x] => by show x ++ (S ++ []) = (x ++ S) ++ []; simp
  | x :: z :: r => by
    show x ++ (S ++ joinL S ((z :: r) ++ [[]])) = (x ++ S) ++ ((z :: r).map fun x => x ++ S).flatten
    rw [joinL_snoc S (z :: r), List.append_assoc]
theorem text_join (ls : List Str) : textS ls = Txt.join "\n" (ls ++ [Str.ofString ""]) := by
  apply ext_tl
  unfold textS
  rw [join_eq, join_eq, tl_join, tl_join, show tl (Str.ofString "") = [] by decide +kernel, joinL_nil, List.map_append, show [Str.ofString ""].map tl = [[]] by decide +kernel, joinL_snoc, List.map_map, List.map_map]
  congr 1
  apply List.map_congr_left
  intro x _
  exact tl_append _ _
theorem text_split {ls : List Str} (h : ∀ l ∈ ls, 10 ∉ tl l) : Txt.split (textS ls) "\n" = ls ++ [Str.ofString ""] := by
  rw [text_join]
  refine split_join (s := 10) (S := []) (by decide +kernel) (by decide +kernel) (by simp) fun p hp => ?_
  rcases List.mem_append.mp hp with hp | hp
  · exact h p hp
  · rw [List.mem_singleton.mp hp]; decide +kernel
theorem numS_tl (n : Nat) : tl (numS (n : Int)) = numL n := tl_num n
theorem num_free {n : Int} (h : 0 ≤ n) {s : Nat} (hs : s < 48 ∨ 57 < s) : s ∉ tl (numS n) := by
  obtain ⟨m, rfl⟩ := Int.eq_ofNat_of_zero_le h
  rw [numS_tl]; exact numL_free hs
theorem num_len {n : Int} (h : 0 ≤ n) (h2 : n < 100000) : (numS n).length ≤ 5 := by
  obtain ⟨m, rfl⟩ := Int.eq_ofNat_of_zero_le h
  rw [len_tl, numS_tl]; exact numL_len (by decide) (by omega)
theorem line_split {w : Str} {ns : List Int} (hw : 32 ∉ tl w) (hn : ∀ n ∈ ns, 0 ≤ n) : Txt.split (lineS w ns) " " = w :: ns.map numS := by
  unfold lineS
  refine split_join (s := 32) (S := []) (by decide +kernel) (by decide +kernel) (by simp) fun p hp => ?_
  rcases List.mem_cons.mp hp with hp | hp
  · rw [hp]; exact hw
  · obtain ⟨n, h1, rfl⟩ := List.mem_map.mp hp
    exact num_free (hn n h1) (.inl (by decide))
theorem joinL_mem {S : List Nat} {c : Nat} (hS : c ∉ S) : ∀ {l : List (List Nat)}, (∀ p ∈ l, c ∉ p) → c ∉ joinL S l
  | [], _ => by show c ∉ ([] : List Nat); simp
  | [x], h => h x List.mem_cons_self
  | x :: z :: r, h => by
    show c ∉ x ++ (S ++ joinL S (z :: r))
    intro hm
    rcases List.mem_append.mp hm with hm | hm
    · exact h x List.mem_cons_self hm
    · rcases List.mem_append.mp hm with hm | hm
      · exact hS hm
      · exact joinL_mem hS (fun p hp => h p (List.mem_cons_of_mem _ hp)) hm
theorem line_free {w : Str} {ns : List Int} (hw : 10 ∉ tl w) (hn : ∀ n ∈ ns, 0 ≤ n) : 10 ∉ tl (lineS w ns) := by
  unfold lineS
  rw [join_eq, tl_join]
  refine joinL_mem (by decide +kernel) fun p hp => ?_
  obtain ⟨q, hq, rfl⟩ := List.mem_map.mp hp
  rcases List.mem_cons.mp hq with hq | hq
  · rw [hq]; exact hw
  · obtain ⟨n, h1, rfl⟩ := List.mem_map.mp hq
    exact num_free (hn n h1) (.inl (by decide))
theorem joinL_len {S : List Nat} {m : Nat} : ∀ {l : List (List Nat)}, (∀ p ∈ l, p.length ≤ m) → (joinL S l).length ≤ l.length * (m + S.length)
  | [], _ => Nat.zero_le _
  | [x], h => by
    show x.length ≤ 1 * (m + S.length)
    have := h x List.mem_cons_self
    omega
  | x :: z :: r, h => by
    show (x ++ (S ++ joinL S (z :: r))).length ≤ ((z :: r).length + 1) * (m + S.length)
    have h1 := h x List.mem_cons_self
    have h2 := joinL_len (S := S) (m := m) (l := z :: r) fun p hp => h p (List.mem_cons_of_mem _ hp)
    rw [List.length_append, List.length_append, Nat.succ_mul]
    omega
theorem join_len {y : Str} {l : List Str} {m : Nat} (h : ∀ p ∈ l, p.length ≤ m) : (Txt.join y l).length ≤ l.length * (m + y.length) := by
  rw [len_tl, join_eq, tl_join, len_tl y]
  have := joinL_len (S := tl y) (m := m) (l := l.map tl) fun p hp => by
    obtain ⟨q, hq, rfl⟩ := List.mem_map.mp hp
    rw [← len_tl]; exact h q hq
  rwa [List.length_map] at this
theorem line_len {w : Str} {ns : List Int} (hw : w.length ≤ 10) (hn : ∀ n ∈ ns, 0 ≤ n ∧ n < 100000) : (lineS w ns).length ≤ (ns.length + 1) * 11 := by
  have := join_len (y := " ") (l := w :: ns.map numS) (m := 10) fun p hp => by
    rcases List.mem_cons.mp hp with hp | hp
    · rw [hp]; exact hw
    · obtain ⟨n, h1, rfl⟩ := List.mem_map.mp hp
      have := num_len (hn n h1).1 (hn n h1).2
      omega
  rw [List.length_cons, List.length_map, show (" " : Str).length = 1 by decide +kernel] at this
  exact this
theorem numL_head : ∀ n : Nat, 0 < n → ∃ c r, numL n = c :: r ∧ c ≠ 48 := by
  intro n
  induction n using Nat.strongRecOn with
  | _ n ih =>
    intro h
    by_cases h10 : n < 10
    · exact ⟨48 + n, [], numL_lt h10, by omega⟩
    · obtain ⟨c, r, e, hc⟩ := ih (n / 10) (by omega) (by omega)
      exact ⟨c, r ++ [48 + n % 10], by rw [numL_step (by omega), e]; rfl, hc⟩
theorem digit_in {c : Nat} (h1 : 48 ≤ c) (h2 : c ≤ 57) : c ∈ (Str.ofString "0123456789").cps.toList := by
  have e : (Str.ofString "0123456789").cps.toList = [48, 49, 50, 51, 52, 53, 54, 55, 56, 57] := by decide +kernel
  rw [e]
  simp only [List.mem_cons, List.not_mem_nil, or_false]
  omega
theorem flat_inz : ∀ ns : List Int, (inz ns).all flatD = true
  | [] => rfl
  | n :: ns => by show (flatD (.int n) && (inz ns).all flatD) = true; rw [flat_inz ns]; rfl
def S_lines_of (ds : List D) (d : List D) : Prop := ∃ ls : List Str, ds = [.str (textS ls)] ∧ (∀ l ∈ ls, 10 ∉ tl l) ∧ (textS ls).length ≤ 1000000 ∧ d = ls.map D.str
def S_number_in (ds : List D) (d : D) : Prop := ∃ n : Int, ds = [.str (numS n)] ∧ (0 ≤ n ∧ n < 100000) ∧ d = .int n
def S_numbers_in (ds : List D) (d : D) : Prop := ∃ (ls : List Str) (j : Nat) (w : Str) (ns : List Int), ds = [.lst (ls.map D.str), .int (j : Int), .str w] ∧ ls[j]? = some (lineS w ns) ∧ 32 ∉ tl w ∧ w.length ≤ 10 ∧ ns.length ≤ 1000 ∧ (∀ n ∈ ns, 0 ≤ n ∧ n < 100000) ∧ d = .tup (inz ns)
def S_checked (ds : List D) (d : D) : Prop := ∃ (se : Se) (ns : List Int) (at_ : Int), ds = [se.d, .tup (inz ns), .int (ns.length : Nat), .int at_] ∧ ns.length ≤ 1000 ∧ (∀ n ∈ ns, n < se.p) ∧ d = .tup (inz ns)
section
variable {X : Cx} {f : Fm} {δ : List Sl}
theorem x_eqN {e : Expr} {d d' : List D} (h : PE X e (tN X.K f δ d)) (k : d = d') : PE X e (tN X.K f δ d') := k ▸ h
/-- a if c else b, c known: a new list -/
theorem x_ifT {c a b : Expr} {pos : Pos} {P : List D → Prop} (hc : PT X c (tBo X.K f δ true)) (ha : PE X a (tNP X.K f δ P)) : PE X (.IfExp c a b pos) (tNP X.K f δ P) :=
  pe_imp (pe_ifExp hc ha (⟨fun _ _ _ _ _ _ h => h.elim⟩ : PE X b (fun _ _ _ => False))) fun σ H Q ⟨G, rp, q⟩ => ⟨G, rp, fun G' H' t => iteT ⟨G', rp.step t, fun p xs ds G2 H2 t2 hp hg hm ho pd z =>
    q p xs ds G2 H2 (t.trans t2) (rp.back t hp).1 hg hm ho pd z⟩⟩
end
section
variable {P : Program} {w : World} {K : PySem.W.Frag} {mg : Str → Option Value} {base : Heap} {C : Addr} {g : Addr} {fd : FuncData}
abbrev s_lines_of : Stmt := top 38
abbrev N_lines_of : List Str := ["text", "lines"]
theorem sc_lines_of : FnScope N_lines_of ["text"] (defScope s_lines_of) := ⟨rfl, rfl, rfl, by decide +kernel, rfl, by decide +kernel, by decide +kernel⟩
theorem ok_lines_of (F : Fun K "lines_of" "lines_of" s_lines_of g fd) : FnOk P w K mg base CX0 1 g fd ["text"] (spN K C 1 S_lines_of) := by
  refine fn_N F sc_lines_of rfl fun cdv A outer s H E G ds d hr hS => ?_
  obtain ⟨ls, rfl, hl, hz, rfl⟩ := hS
  have nd := sc_lines_of.nd
  have e : (Txt.split (textS ls) "\n").map D.str = ls.map D.str ++ [.str ""] := by rw [text_split hl, List.map_append]; rfl
  refine s_seq (s_setN (i := 1) (ds := ls.map D.str ++ [.str ""]) nd rfl (.inl rfl) (lt_ rfl) (by rw [← e]; exact x_split (by decide +kernel) (by omega) (x_of (pv 0) rfl) x_str) rfl) ?_
  have hcut : cutD (ls.map D.str ++ [.str ""]) none (some (-1)) = ls.map D.str := by
    unfold cutD HT.sIx
    simp only [List.length_append, List.length_map, List.length_singleton]
    rw [if_pos (by decide), List.drop_zero, show (-1 + ((ls.length + 1 : Nat) : Int)).toNat - 0 = (ls.map D.str).length by rw [List.length_map]; omega]
    exact List.take_left
  refine s_one (s_retN (x_ifT (t_is (t_cmp op_eq rd_eqS (x_ix (o_l (o_own (pv 1) rfl)) (x_neg x_int) (d := .str "") (atI_last _ _)) x_str (nomark _)) (by decide +kernel)) (x_eqN (x_sll (o_own (pv 1) rfl) p_no (p_int (x_neg x_int))) hcut)))
abbrev s_number_in : Stmt := top 39
abbrev N_number_in : List Str := ["word", "sign"]
theorem sc_number_in : FnScope N_number_in ["word"] (defScope s_number_in) := ⟨rfl, rfl, rfl, by decide +kernel, rfl, by decide +kernel, by decide +kernel⟩
theorem ok_number_in (B : Bt mg) (F : Fun K "number_in" "number_in" s_number_in g fd) : FnOk P w K mg base CX0 1 g fd ["word"] (spD K C 1 S_number_in) := by
  refine fn_D F sc_number_in rfl fun cdv A outer s H E G ds d hr hS => ?_
  obtain ⟨n, rfl, ⟨h0, h1⟩, rfl⟩ := hS
  have nd := sc_number_in.nd
  obtain ⟨m, rfl⟩ := Int.eq_ofNat_of_zero_le h0
  have hl := num_len h0 h1
  obtain ⟨c, r, hc⟩ : ∃ c r, tl (numS ((m : Nat) : Int)) = c :: r := by
    rw [numS_tl]
    cases q : numL m with
    | nil => exact absurd q (numL_ne m)
    | cons c r => exact ⟨c, r, rfl⟩
  have hl1 : 1 ≤ (numS ((m : Nat) : Int)).length := by rw [len_tl, hc]; exact Nat.succ_le_succ (Nat.zero_le _)
  have dg : ∀ x ∈ tl (numS ((m : Nat) : Int)), x ∈ (Str.ofString "0123456789").cps.toList := fun x hx => by
    rw [numS_tl] at hx
    exact digit_in (numL_digits m x hx).1 (numL_digits m x hx).2
  refine ss_ifl (k := false) (t_is (PW.pt (w_or (l := false) (t_not (t_chain op_le op_le rd_le rd_le x_int (x_lens (by omega) rfl B.len (x_of (pv 0) rfl)) x_int)) fun hc => (w_or1 (t_is (t_cmp op_gt rd_gt (x_len rfl B.len (o_l (o_new (x_lcm (l := tl (numS ((m : Nat) : Int))) (h := fun c => D.str ⟨#[c]⟩) (fun _ => false) (fun c => D.str ⟨#[c]⟩) (j := 1) rfl nd (lt_ rfl) (by rw [← len_tl]; omega) (i_s (i_str (x_of (pv 0) rfl))) (blkOk_by (N := N_number_in) (sc := defScope s_number_in) (by decide +kernel)) (fun _ _ _ _ _ => pg_name (i := 1) nd rfl (.inl rfl))
      (fun x hx _ _ _ _ _ => ts_one (t_is (t_ninS (x_of (pv 1) rfl) x_str) (by rw [decide_eq_true (dg x hx)]; rfl)))
      (fun a ha hb _ _ _ _ _ => (x_of (pv 1) rfl)))))) x_int (nomark _)) (by simp))))) ?_) (fun h => absurd h (by decide)) (fun _ => ?_)
  · rw [decide_eq_true (show (1 : Int) ≤ ((numS ((m : Nat) : Int)).length : Int) by omega), decide_eq_true (show ((numS ((m : Nat) : Int)).length : Int) ≤ 5 by omega)]; rfl
  refine s_one (s_ret (x_if (k := true) (t_is (PW.pt (w_or (t_cmp op_eq rd_eqS (x_of (pv 0) rfl) x_str (nomark _)) fun _ => (w_or1 (t_cmp op_ne rd_neS (x_ixs (c := c) (by omega) (x_of (pv 0) rfl) x_int (by show atI (tl (numS ((m : Nat) : Int))) 0 = some c; rw [hc]; exact atI_nat (j := 0) rfl)) x_str (nomark _))))) ?_) (fun _ => x_ints (int_num (by
    have := hl; rw [len_tl, numS_tl] at this; omega)) (Nat.le_trans hl (by decide)) rfl B.int (x_of (pv 0) rfl)) (fun h => absurd h (by decide))))
  by_cases hm : m = 0
  · subst hm
    rw [show decide (numS ((0 : Nat) : Int) = Str.ofString "0") = true by decide +kernel]; rfl
  · obtain ⟨c', r', e, hne⟩ := numL_head m (by omega)
    rw [numS_tl, e] at hc
    have : c' = c := (List.cons.inj hc).1
    subst this
    rw [show decide ((⟨#[c']⟩ : Str) = Str.ofString "0") = false from decide_eq_false fun h => hne (by
      have h2 : tl (⟨#[c']⟩ : Str) = tl (Str.ofString "0") := by rw [h]
      rw [show tl (Str.ofString "0") = [48] by decide +kernel] at h2
      exact (List.cons.inj h2).1)]
    simp
abbrev s_numbers_in : Stmt := top 43
abbrev N_numbers_in : List Str := ["lines", "at", "word", "words", "numbers", "one"]
theorem sc_numbers_in : FnScope N_numbers_in ["lines", "at", "word"] (defScope s_numbers_in) := ⟨rfl, rfl, rfl, by decide +kernel, rfl, by decide +kernel, by decide +kernel⟩
theorem ok_numbers_in (B : Bt mg) (c_number_in : Glo P w K mg base "number_in" 1 ["word"] (spD K C 1 S_number_in)) (F : Fun K "numbers_in" "numbers_in" s_numbers_in g fd) : FnOk P w K mg base CX0 2 g fd ["lines", "at", "word"] (spD K C 3 S_numbers_in) := by
  refine fn_D F sc_numbers_in rfl fun cdv A outer s H E G ds d hr hS => ?_
  obtain ⟨ls, j, wd, ns, rfl, hj, hw, hwl, hn, hns, rfl⟩ := hS
  have nd := sc_numbers_in.nd
  have jl : j < ls.length := (List.getElem?_eq_some_iff.mp hj).1
  have ll := line_len hwl hns
  have hat : atI (ls.map D.str) ((j : Nat) : Int) = some (.str (lineS wd ns)) := atI_nat (by rw [List.getElem?_map, hj]; rfl)
  refine s_seq (s_setN (i := 3) (ds := D.str wd :: ns.map fun n => D.str (numS n)) nd rfl (.inl rfl) (lt_ rfl) (x_ifT (t_is (t_cmp op_lt rd_lt (x_of (pv 1) rfl) (x_len rfl B.len (o_l (o_lst (x_of (pv 0) rfl)))) (nomark _)) (decide_eq_true (by rw [List.length_map]; omega))) (x_eqN (x_split (by decide +kernel) (by omega) (x_ix (o_l (o_lst (x_of (pv 0) rfl))) (x_of (pv 1) rfl) hat) x_str) (by rw [line_split hw (fun n h => (hns n h).1), List.map_cons, List.map_map]; rfl))) rfl) ?_
  refine s_seq (s_set (i := 4) (d := .tup (inz ns)) nd rfl (.inl rfl) (lt_ rfl) (x_tuple rfl B.tuple (o_new (x_lca (l := ns) (h := fun n => D.str (numS n)) D.int (j := 5) rfl nd (lt_ rfl) (by omega) (i_s (i_new (x_eqN (x_sll (o_own (pv 3) rfl) (p_int x_int) p_no) (cut1 _ _)))) (blkOk_by (N := N_numbers_in) (sc := defScope s_numbers_in) (by decide +kernel)) (fun _ _ _ _ _ => pg_name (i := 5) nd rfl (.inl rfl))
      (fun n hn _ _ _ _ _ => (x_call c_number_in (hr.mono (by decide)) (a_cons (x_of (pv 5) rfl) a_nil) ⟨rfl, n, rfl, hns n hn, rfl⟩))))) rfl) ?_
  have hnone : inD .non (inz ns) = false := by
    unfold inD
    rw [List.any_eq_false]
    intro d hd
    obtain ⟨n, _, rfl⟩ := List.mem_map.mp hd
    simp [eqD]
  refine ss_ifl (k := false) (t_is (PW.pt (w_or (t_cmp op_ne rd_neS (x_ix (o_l (o_own (pv 3) rfl)) x_int (at0 _ _)) (x_of (pv 2) rfl) (nomark _)) fun hc => (w_or1 (t_in x_non (o_tup (x_of (pv 4) rfl)) rfl (flat_inz ns))))) (by rw [hnone, decide_eq_true rfl]; rfl)) (fun h => absurd h (by decide)) (fun _ => ?_)
  exact s_one (s_ret (x_of (pv 4) rfl))
abbrev s_checked : Stmt := top 44
abbrev N_checked : List Str := ["setting", "numbers", "many", "at", "number"]
theorem sc_checked : FnScope N_checked ["setting", "numbers", "many", "at"] (defScope s_checked) := ⟨rfl, rfl, rfl, by decide +kernel, rfl, by decide +kernel, by decide +kernel⟩
theorem ok_checked (B : Bt mg) (F : Fun K "checked" "checked" s_checked g fd) : FnOk P w K mg base CX0 1 g fd ["setting", "numbers", "many", "at"] (spD K C 4 S_checked) := by
  refine fn_D F sc_checked rfl fun cdv A outer s H E G ds d hr hS => ?_
  obtain ⟨se, ns, at_, rfl, hl, hp, rfl⟩ := hS
  have nd := sc_checked.nd
  refine ss_ifl (k := false) (t_is (PW.pt (w_or (t_cmp op_ne rd_neI (x_len rfl B.len (o_tup (x_of (pv 1) rfl))) (x_of (pv 2) rfl) (nomark _)) fun hc => (w_or1 (t_cmp op_gt rd_gt (x_len rfl B.len (o_l (o_new (x_lcm (l := ns) (h := D.int) (fun _ => false) D.int (j := 4) rfl nd (lt_ rfl) (by omega) (i_s (i_tup (x_of (pv 1) rfl))) (blkOk_by (N := N_checked) (sc := defScope s_checked) (by decide +kernel)) (fun _ _ _ _ _ => pg_name (i := 4) nd rfl (.inl rfl))
      (fun n hn _ _ _ _ _ => ts_one (t_is (t_cmp op_ge rd_ge (x_of (pv 4) rfl) (x_ixt (x_of (pv 0) rfl) x_int rfl) (nomark _)) (decide_eq_false (by have := hp n hn; omega))))
      (fun a ha hb _ _ _ _ _ => (x_of (pv 4) rfl)))))) x_int (nomark _))))) (by simp)) (fun h => absurd h (by decide)) (fun _ => ?_)
  exact s_one (s_ret (x_of (pv 1) rfl))
end
end Un
set_option maxHeartbeats 4000000
namespace Un
open PySem L2 TL
theorem rowd_ok (r : Row) : eqOk r.d := by
  have h := kind_ok r.tag
  simp only [PyData.canLay0] at h
  cases r <;> exact ⟨by simp [Row.d, Row.args, pureD, pureDs], by
    simp only [Row.tag] at h
    simp [Row.d, Row.args, Row.tag, pyD, pysD, SeqAt.shaped, PyData.canLay0, PyData.canLayAll0, PyData.depth, PyData.depthAll, h]⟩
theorem rowd_eqv (r : Row) (num : Nat) : PyData.eqv (pyD r.d) (pyD (.tup [.str "in", .int ((num : Nat) : Int)])) = isIn num r := by
  have h := kb_is0 r.tag
  have e : ∀ a b : Nat, (((a : Nat) : Int) == ((b : Nat) : Int)) = decide (a = b) := fun a b => dec_nat a b
  cases r <;> (simp only [Row.tag] at h; simp [Row.d, Row.args, Row.tag, pyD, pysD, PyData.eqv, PyData.eqvAll, isIn, h, e])
structure BornH (K : PySem.W.Frag) (C : Addr) (G0 H0 : Hp) (p : Addr) (cs : List Addr) (a : Pa) (G H : Hp) : Prop where
  sub : Sub G H
  own : OwnP K C G H p cs a
  gg : Sub G0 G
  hh : ∀ x o, H0 x = some o → H x = some o
  fr : ∀ x, H0 x ≠ none → G x ≠ none → G0 x ≠ none
  newp : H0 p = none
  new : ∀ c ∈ cs, H0 c = none
def kmB (r : Row) : Bool := decide (r.tag = 4 ∨ r.tag = 8)
def kmM (rows : List Row) : Nat := (rows.filter kmB).length
theorem mine_or (num : Nat) (r : Row) : mine num r = (isIn num r || kmB r) := by cases r <;> first | rfl | exact (Bool.or_false _).symm
theorem mine_and (num : Nat) (r : Row) : (isIn num r && kmB r) = false := by cases r <;> first | rfl | exact Bool.and_false _
theorem mine_len (num : Nat) : ∀ rows : List Row, (rows.filter (mine num)).length = (rows.filter (isIn num)).length + kmM rows
  | [] => rfl
  | r :: rows => by
    have ih := mine_len num rows
    unfold kmM at ih ⊢
    have h1 := mine_or num r
    have h2 := mine_and num r
    rw [List.filter_cons, List.filter_cons, List.filter_cons, h1]
    cases q1 : isIn num r <;> cases q2 : kmB r
    · simp [ih]
    · simp [ih]; omega
    · simp [ih]; omega
    · rw [q1, q2] at h2; cases h2
theorem take_all {α : Type} (l : List α) : l.take l.length = l := List.take_length
structure Prt (P : Program) (w : World) (K : PySem.W.Frag) (mg : Str → Option Value) (base : Heap) (C : Addr) : Prop where
  ex : ∃ (g : Addr) (fd : FuncData), Mk K C g ∧ FnOk P w K mg base CX0 6 g fd ["self", "setting", "program", "number", "inputs", "coins"] (spInit K C) ∧ mg "Party" = some (.ref C) ∧ Binds K fd ["self", "setting", "program", "number", "inputs", "coins"] []
structure HeadOk (ls : List Str) (a : Pa) : Prop where
  ok : a.Ok
  l0 : ls[0]? = some (lineS "party" [(a.num : Int)])
  l1 : ls[1]? = some (lineS "inputs" a.inputs)
  l2 : ls[2]? = some (lineS "coins" a.coins)
  cr : ∀ z ∈ a.coins, 0 ≤ z ∧ z < a.se.p
def spHead (K : PySem.W.Frag) (C : Addr) : Sp := fun vs H Q _ => ∃ (G : Hp) (se : Se) (rows : List Row) (ls : List Str) (num : Nat) (inputs coins : List Int), Sub G H ∧ Dats K C G [se.d, progD rows, .lst (ls.map D.str)] vs ∧ HeadOk ls (newPa se rows num inputs coins) ∧
  ∀ p cs G' H', BornH K C G H p cs (newPa se rows num inputs coins) G' H' → Q (.ref p) H'
section
variable {X : Cx} {C : Addr} {G0 H0 : Hp} {δ : List Sl} {N : List Sl → Prop} {p' pos ppos : Pos} {e : Expr} {es : List Expr}
theorem s_retMake {se : Se} {rows : List Row} {num : Nat} {inputs coins : List Int} (M : Prt X.prog X.w X.K X.mg X.base C) (hr : Room 7 X.A) (ha : PA X (e :: es) (tL X.K (pf C G0 H0) δ [se.d, progD rows, .int (num : Int), .tup (inz inputs), .tup (inz coins)])) (ok : (newPa se rows num inputs coins).Ok)
    (hg : Gl X "Party" := by rfl) (he : starEach (e :: es) X.env = (false, eval e X.env) :: starEach es X.env := by rfl) (hpl : (backTo ppos (starEach es X.env)).any (·.1) = false := by rfl) :
    PS X (.Return (some (.Call (.Name "Party" p') (e :: es) [] ppos)) pos) (tX X.K (pf C G0 H0) δ N (fun v H' => ∃ p cs G', v = .ref p ∧ BornH X.K C G0 H0 p cs (newPa se rows num inputs coins) G' H')) := by
  obtain ⟨g, fd, mk, F, hm, hb⟩ := M.ex
  refine ps_imp (ps_ret (pe_make mk F hr hg hm hb .nil pass0 ha (by decide) he hpl)) fun Dn σ H ⟨G, rp, hn, hrt⟩ => ⟨G, rp, fun vs ds G1 H1 t1 e1 z1 => fun x dx hx hdx ne => ?_⟩
  subst e1
  rw [List.append_nil]
  have tp : PStep G0 H0 G1 H1 := (rp.st.trans t1).p
  have up : ∀ y o, H1 y = some o → upd (upd H1 dx (.own x)) x (.ins C dx []) y = some o := fun y o h => by
    rw [upd_ne (ne_of_none h hx), upd_ne (ne_of_none h hdx)]; exact h
  refine ⟨G1, x, dx, vs, se, rows, num, inputs, coins, rfl, fun y o h => up y o (t1.gh y o h), upd_same, t1.gh.none hx, z1, ok, fun cs G' H' b => ⟨rfl, hrt _ _ ⟨x, cs, G', rfl, ⟨b.sub, b.own, tp.gg.trans b.gg, fun y o h => ?_, fun y h1 h2 => ?_, ?_, fun c hc => ?_⟩⟩⟩⟩
  · have h1 := tp.hh y o h
    exact b.hh y o (ne_of_none h1 hx) (up y o h1)
  · have h3 : H1 y ≠ none := by
      cases q : H0 y with
      | none => exact absurd q h1
      | some o => exact ne_none (tp.hh y o q)
    refine tp.fr y h1 (b.fr y ?_ h2)
    cases q : H1 y with
    | none => exact absurd q h3
    | some o => exact ne_none (up y o q)
  · cases q : H0 x with
    | none => rfl
    | some o => have := tp.hh x o q; rw [hx] at this; cases this
  · cases q : H0 c with
    | none => rfl
    | some o =>
      have := b.new c hc
      rw [up c o (tp.hh c o q)] at this; cases this
end
section
variable {P : Program} {w : World} {K : PySem.W.Frag} {mg : Str → Option Value} {base : Heap} {C : Addr} {g : Addr} {fd : FuncData}
abbrev s_head_of : Stmt := top 45
abbrev N_head_of : List Str := ["setting", "program", "lines", "first", "many", "more", "inputs", "coins", "row"]
theorem sc_head_of : FnScope N_head_of ["setting", "program", "lines"] (defScope s_head_of) := ⟨rfl, rfl, rfl, by decide +kernel, rfl, by decide +kernel, by decide +kernel⟩
theorem ok_head_of (B : Bt mg) (M : Prt P w K mg base C) (c_numbers_in : Glo P w K mg base "numbers_in" 2 ["lines", "at", "word"] (spD K C 3 S_numbers_in)) (c_parties : Glo P w K mg base "parties" 1 ["setting"] (spD K C 1 S_parties)) (c_checked : Glo P w K mg base "checked" 1 ["setting", "numbers", "many", "at"] (spD K C 4 S_checked))
    (F : Fun K "head_of" "head_of" s_head_of g fd) : FnOk P w K mg base CX0 8 g fd ["setting", "program", "lines"] (spHead K C) := by
  refine F.ok sc_head_of (fun vs H Q E h => ?_) (fun cdv A outer s H vs Q E hr h => ?_)
  · obtain ⟨G, se, rows, ls, num, inputs, coins, _, z, _⟩ := h
    rw [← z.len]; rfl
  obtain ⟨G, se, rows, ls, num, inputs, coins, gh, z, hk, q⟩ := h
  have nd := sc_head_of.nd
  have hr : Room 7 (bX P w K mg base N_head_of "head_of" s_head_of g cdv A outer s H E).A := hr
  have hu : (bX P w K mg base N_head_of "head_of" s_head_of g cdv A outer s H E).A.units + 64 < cLine := hr.units
  have ok := hk.ok
  have sok : se.Ok := ok.se
  have p2 := sok.p2; have p3 := sok.p3; have n2 := sok.n2; have tn := sok.tn
  have hz : rows.length ≤ 60 := ok.rows.1
  have k1 : 1 ≤ num := ok.n1
  have k2 : num ≤ se.n := ok.n2
  have hin : inputs.length = usedAt num rows rows.length := ok.inl
  have hco : coins.length = atAt se.t num rows rows.length := ok.col
  have hin' : ((rows.filter (isIn num)).map Row.d).length = inputs.length := by
    rw [List.length_map, hin]; unfold usedAt; rw [take_all]
  have il : inputs.length ≤ 60 := by
    rw [← hin', List.length_map]
    exact Nat.le_trans (List.length_filter_le _ _) hz
  have hco' : ((se.t : Nat) : Int) * ((((rows.filter (isIn num)).map Row.d).length : Int) + (((rows.filter kmB).map Row.d).length : Int)) = ((coins.length : Nat) : Int) := by
    rw [hco]; unfold atAt
    rw [take_all, mine_len, List.length_map, List.length_map]
    unfold kmM
    push_cast
    rfl
  have cl : coins.length ≤ 1000 := by
    rw [hco]; unfold atAt
    have h1 : ((rows.take rows.length).filter (mine num)).length ≤ 60 := by
      rw [take_all]
      exact Nat.le_trans (List.length_filter_le _ _) hz
    have h2 : se.t ≤ 2 := by omega
    exact Nat.le_trans (Nat.mul_le_mul h2 h1) (by decide)
  have ir : ∀ z ∈ inputs, 0 ≤ z ∧ z < se.p := ok.inr
  have body : PSs (bX P w K mg base N_head_of "head_of" s_head_of g cdv A outer s H E) (defBody s_head_of) (tX K (pf C G H) (ent N_head_of [se.d, progD rows, .lst (ls.map D.str)]) (fun _ => False) (fun v H' => ∃ p cs G', v = .ref p ∧ BornH K C G H p cs (newPa se rows num inputs coins) G' H')) := by
    refine s_seq (s_set (i := 3) (d := .tup (inz [(num : Int)])) nd rfl (.inr rfl) (lt_ rfl) (x_call c_numbers_in (hr.mono (by decide)) (a_cons (x_of (pv 2) rfl) (a_cons x_int (a_cons x_str a_nil))) ⟨rfl, ls, 0, "party", [(num : Int)], rfl, hk.l0, by decide +kernel, by decide +kernel, le_ rfl, fun z hz => by rw [List.mem_singleton.mp hz]; omega, rfl⟩) rfl) ?_
    have hpt : inD (.int (num : Int)) (inz (pts se.n)) = true := by
      rw [pts_nat]
      unfold inD
      refine List.any_eq_true.mpr ⟨.int (num : Int), ?_, by simp [eqD]⟩
      exact List.mem_map.mpr ⟨num, mem_ptsN.mpr ⟨k1, k2⟩, rfl⟩
    refine ss_ifl (k := false) (t_is (PW.pt (w_or (t_cmp op_ne rd_neI (x_len rfl B.len (o_tup (x_of (pv 3) rfl))) x_int (nomark _)) fun hc => (w_or1 (t_nin (x_ixt (x_of (pv 3) rfl) x_int rfl) (o_tup (x_call c_parties (hr.mono (by decide)) (a_cons (x_of (pv 0) rfl) a_nil) ⟨rfl, se, rfl, sok, rfl⟩)) rfl (flat_inz _))))) (by rw [hpt]; rfl)) (fun h => absurd h (by decide)) (fun _ => ?_)
    refine s_seq (s_set (i := 4) (d := .int (((rows.filter (isIn num)).map Row.d).length : Nat)) nd rfl (.inl rfl) (lt_ rfl) (x_len rfl B.len (o_l (o_new (x_lcm (l := rows) (h := Row.d) (isIn num) Row.d (j := 8) rfl nd (lt_ rfl) (by omega) (i_s (i_tup (x_ixt (x_of (pv 1) rfl) x_int rfl))) (blkOk_by (N := N_head_of) (sc := defScope s_head_of) (by decide +kernel)) (fun _ _ _ _ _ => pg_name (i := 8) nd rfl (.inl rfl))
      (fun r hr' _ _ _ _ _ => ts_one (t_is (t_eqD hu (x_of (pv 8) rfl) (x_tup (a_cons x_str (a_cons (x_ixt (x_of (pv 3) rfl) x_int rfl) a_nil))) (rowd_ok r) (in_ok _)) (rowd_eqv r num)))
      (fun a ha hb _ _ _ _ _ => (x_of (pv 8) rfl)))))) rfl) ?_
    refine s_seq (s_set (i := 5) (d := .int (((rows.filter kmB).map Row.d).length : Nat)) nd rfl (.inl rfl) (lt_ rfl) (x_len rfl B.len (o_l (o_new (x_lcm (l := rows) (h := Row.d) kmB Row.d (j := 8) rfl nd (lt_ rfl) (by omega) (i_s (i_tup (x_ixt (x_of (pv 1) rfl) x_int rfl))) (blkOk_by (N := N_head_of) (sc := defScope s_head_of) (by decide +kernel)) (fun _ _ _ _ _ => pg_name (i := 8) nd rfl (.inl rfl))
      (fun r hr' _ _ _ _ _ => ts_one (t_is (t_in (x_ixt (x_of (pv 8) rfl) x_int (at0 _ _)) (o_tup (x_tup (a_cons x_str (a_cons x_str a_nil))))) (k_in48 r.tag)))
      (fun a ha hb _ _ _ _ _ => (x_of (pv 8) rfl)))))) rfl) ?_
    refine s_seq (s_set (i := 6) (d := .tup (inz inputs)) nd rfl (.inl rfl) (lt_ rfl) (x_call c_checked (hr.mono (by decide)) (a_cons (x_of (pv 0) rfl) (a_cons (x_call (d := .tup (inz inputs)) c_numbers_in (hr.mono (by decide)) (a_cons (x_of (pv 2) rfl) (a_cons x_int (a_cons x_str a_nil))) ⟨rfl, ls, 1, "inputs", inputs, rfl, hk.l1, by decide +kernel, by decide +kernel, by omega, fun z hz => by have := ir z hz; omega, rfl⟩) (a_cons (x_eq (x_of (pv 4) rfl) (by rw [hin'])) (a_cons x_int a_nil)))) ⟨rfl, se, inputs, 1, rfl, by omega, fun z hz => (ir z hz).2, rfl⟩) rfl) ?_
    have hmul : CMul ((se.t : Nat) : Int) ((((rows.filter (isIn num)).map Row.d).length : Int) + (((rows.filter kmB).map Row.d).length : Int)) := by
      have h1 : ((rows.filter (isIn num)).map Row.d).length ≤ 60 := by rw [List.length_map]; exact Nat.le_trans (List.length_filter_le _ _) hz
      have h2 : ((rows.filter kmB).map Row.d).length ≤ 60 := by rw [List.length_map]; exact Nat.le_trans (List.length_filter_le _ _) hz
      exact Or.inl ⟨by omega, by omega⟩
    refine s_seq (s_set (i := 7) (d := .tup (inz coins)) nd rfl (.inl rfl) (lt_ rfl) (x_call c_checked (hr.mono (by decide)) (a_cons (x_of (pv 0) rfl) (a_cons (x_call (d := .tup (inz coins)) c_numbers_in (hr.mono (by decide)) (a_cons (x_of (pv 2) rfl) (a_cons x_int (a_cons x_str a_nil))) ⟨rfl, ls, 2, "coins", coins, rfl, hk.l2, by decide +kernel, by decide +kernel, cl, fun z hz => by have := hk.cr z hz; have : z < se.p := this.2; have := (hk.cr z hz).1; omega, rfl⟩) (a_cons (x_eq (x_inti rfl B.int (x_mul hmul (x_ixt (x_of (pv 0) rfl) x_int rfl) (x_add (x_of (pv 4) rfl) (x_of (pv 5) rfl)))) (by rw [hco'])) (a_cons x_int a_nil)))) ⟨rfl, se, coins, 2, rfl, cl, fun z hz => (hk.cr z hz).2, rfl⟩) rfl) ?_
    exact s_one (s_retMake M hr (a_cons (x_of (pv 0) rfl) (a_cons (x_of (pv 1) rfl) (a_cons (x_ixt (x_of (pv 3) rfl) x_int rfl) (a_cons (x_of (pv 6) rfl) (a_cons (x_of (pv 7) rfl) a_nil))))) ok)
  refine ⟨_, body, G, rep_start (f := pf C G H) gh True.intro (fun _ m => m.elim) z, fun _ _ _ _ f => f.elim, ?_⟩
  rintro v H' ⟨p, cs, G', rfl, b⟩
  exact q p cs G' H' b
end
end Un
set_option maxHeartbeats 4000000
namespace Un
open PySem L2 TL
section
variable {K : PySem.W.Frag} {C : Addr} {G H G0 H0 G1 H1 G2 H2 : Hp} {p : Addr} {cs : List Addr} {a b : Pa}
theorem Ph.trans (h : Ph K C G0 H0 p cs a G1 H1) (k : Ph K C G1 H1 p cs b G2 H2) : Ph K C G0 H0 p cs b G2 H2 where
  sub := k.sub
  own := k.own
  gg := h.gg.trans k.gg
  hh := fun x o h1 h2 e => k.hh x o h1 h2 (h.hh x o h1 h2 e)
  fr := fun x h1 h2 => by
    by_cases e : x = p ∨ x ∈ cs
    · rw [k.own.gx e] at h2; exact absurd rfl h2
    · refine h.fr x h1 (k.fr x ?_ h2)
      cases q : H0 x with
      | none => exact absurd q h1
      | some o => exact ne_none (h.hh x o (fun z => e (.inl z)) (fun z => e (.inr z)) q)
theorem ext_nIC2 (o : OwnP K C G1 H1 p cs a) (gg : Sub G1 G2) : ∀ x u, ext G1 H1 p cs x = some u → nIC u → ext G2 H2 p cs x = some u := by
  intro x u h hn
  by_cases e : x = p ∨ x ∈ cs
  · rw [ext_in e] at h
    rcases e with e | e
    · obtain ⟨_, _, _, q, _⟩ := o.ins
      rw [e, q] at h; cases h; exact hn.elim
    · obtain ⟨k, q⟩ := List.mem_iff_getElem?.mp e
      rw [(o.dic k x q).1] at h; cases h; exact hn.elim
  · rw [ext_out e] at h ⊢; exact gg x u h
theorem ext_thin (o : OwnP K C G H p cs a) : ∀ x u, ext G H p cs x = some u → nIC u → G x = some u := by
  intro x u h hn
  by_cases e : x = p ∨ x ∈ cs
  · rw [ext_in e] at h
    rcases e with e | e
    · obtain ⟨_, _, _, q, _⟩ := o.ins
      rw [e, q] at h; cases h; exact hn.elim
    · obtain ⟨k, q⟩ := List.mem_iff_getElem?.mp e
      rw [(o.dic k x q).1] at h; cases h; exact hn.elim
  · rw [ext_out e] at h; exact h
end
section
variable {X : Cx} {C : Addr} {ip : Nat} {G0 H0 : Hp} {p : Addr} {cs : List Addr} {δ : List Sl} {a : Pa} {N : List Sl → Pa → Prop} {R : V → Hp → Prop}
/-- party.take(e) -/
theorem ph_take {o e : Expr} {apos cpos pos : Pos} {l : Nat × Nat × Int} {δ1 : List Sl} {pl : Sem Bool} (cl : Cls X.K C) (c : Mtd X.prog X.w X.K X.mg X.base C "take" 9 ["self", "letter"] (spTake X.K C)) (hr : Room 9 X.A) (ho : PE X o (tVar ip)) (he : ∀ G H, PE X e (tD X.K (pf C G H) δ (letD a.num l)))
    (ok : a.Ok) (lo : LetOk a l) (hn : (cameL a l.1).lookup l.2.1 = none) (hz : (cameL a l.1).length < 1000) (hk : a.took.length < 1000) (hip : ip < δ.length) (ht : (δ.set ip .no).all slThin = true) (h1 : δ.set ip (.dat (a.take l).d) = δ1)
    (hst : starEach (e :: []) X.env = (false, eval e X.env) :: starEach [] X.env := by rfl) (hpl : (backTo cpos (starEach [] X.env)).any (·.1) = false := by rfl)
    (ht' : eval (.Call (.Attribute o "take" apos) (e :: []) [] cpos) X.env = (do
      let ov ← eval o X.env
      standAt apos.atName
      let (f, first) ← holding [ov] (getMethod ov "take" pl)
      callWith cpos f first (backTo cpos (starEach (e :: []) X.env)) (backToKw cpos (keywordEach [] X.env))) := by rfl)
    (hs : swapsWith (.Call (.Attribute o "take" apos) (e :: []) [] cpos) none pos.line X.env = pure false := by rfl) :
    PS X (.Expr (.Call (.Attribute o "take" apos) (e :: []) [] cpos) pos) (tPh X.K C ip G0 H0 p cs δ a (fun e b => e = δ1 ∧ b = a.take l) R) := by
  obtain ⟨g, fd, F, hm, hb⟩ := c.ex
  refine ⟨fun pins s σ H Dn I ⟨G, ph, sl, hn', hrt⟩ => (ps_expr (pe_meth ho cl hm F hr hb .nil pass0 (pa_cons (he (ext G H p cs) H) pa_nil hst) hst hpl ht') hs).run pins s σ H Dn I ⟨.ref p, sAt_some sl.pin, ?_⟩⟩
  have dt := ph.own.dat
  obtain ⟨p', dx, ys, e1, h2, h3⟩ := dt.obj_inv
  cases e1
  rw [ext_in (.inl rfl)] at h2
  refine ⟨p, dx, ys, rfl, h2, h3.none (f_no (by decide +kernel) a), ext G H p cs, sl.rep (ext_sub ph.sub), fun v d' G1 H1 t e2 z => ?_⟩
  subst e2
  obtain ⟨ph1, q1⟩ := ph.next t
  show L2.tNil _ _ _
  refine ⟨thin G1 p cs, p, cs, a, l, v, rfl, ph1.sub, ph1.own, ?_, ok, lo, hn, hz, hk, fun v2 G2 H2 ph2 => ?_⟩
  · refine z.thin (fun x u h hn => ?_) (let_thin _ _)
    rw [q1] at h
    exact ext_thin ph1.own x u h hn
  · refine hn' _ _ σ G2 H2 ⟨rfl, rfl⟩ (ph1.trans ph2) ?_
    rw [← h1]
    refine Sls.change (G := ext (thin G1 p cs) H1 p cs) ?_ (ext_nIC2 ph1.own ph2.gg) hip ht ph2.own.dat
    rw [← q1]
    exact sl.mono t.gg
/-- return of the party itself (or of anything) as data -/
theorem ph_retD {e : Expr} {pos : Pos} {d : D} (he : ∀ G H, PE X e (tD X.K (pf C G H) δ d)) (hp : H0 p = none) (hc : ∀ c ∈ cs, H0 c = none) :
    PS X (.Return (some e) pos) (tPh X.K C ip G0 H0 p cs δ a N (retD X.K (pf C G0 H0) d)) :=
  ⟨fun pins s σ H Dn I ⟨G, ph, sl, hn', hr⟩ => (ps_ret (he (ext G H p cs) H)).run pins s σ H Dn I ⟨ext G H p cs, sl.rep (ext_sub ph.sub), fun v d' G1 H1 t e1 z => by
    subst e1
    obtain ⟨ph1, q1⟩ := ph.next t
    have hx : ∀ x o, H0 x = some o → H1 x = some o := fun x o h => ph1.hh x o (fun z => by rw [z, hp] at h; cases h) (fun z => by rw [hc x z] at h; cases h) h
    refine hr v H1 ⟨d', G1, ⟨?_, t.gh, fun x o _ h => hx x o h, fun x h => ?_, fun x h h2 => ?_, fun i => i⟩, rfl, z⟩
    · rw [q1]; exact ph1.gg.trans ph1.own.sub
    · cases q : H0 x with
      | none => exact absurd q h
      | some o => exact ne_none (hx x o q)
    · rw [q1] at h2
      by_cases e : x = p ∨ x ∈ cs
      · rcases e with e | e
        · exact absurd (e ▸ hp) h
        · exact absurd (hc x e) h
      · rw [ext_out e] at h2; exact ph1.fr x h h2⟩⟩
/-- for x in range(..): phases -/
theorem ph_for {j n : Nat} {lo : Int} {tg iter : Expr} {body : List Stmt} {pos : Pos} {δ0 : List Sl} (A : Nat → Pa) (L : Nat → List Sl → Prop) (hp : PassesOwn (model X.prog X.w) X.A X.env X.xe) (hc : X.calm = true)
    (hi : ∀ G H, PI X tg iter (tI X.K (pf C G H) δ0 fun e => e = rngD lo n)) (hg : PG X tg (gName j)) (hj : j ≠ ip) (hl0 : δ0.length = δ.length) (hw : ∀ i, dAt δ0 i = .no ∨ ∃ d, dAt δ0 i = .dat d ∧ dAt δ i = .dat d ∧ thinD d = true)
    (h0 : L 0 δ) (hA : A 0 = a) (hL : ∀ i δ', L i δ' → j < δ'.length)
    (hb : ∀ G0 H0 i δ', i < n → L i δ' → PSs X body (tPh X.K C ip G0 H0 p cs (δ'.set j (.dat (.int (lo + (i : Nat))))) (A i) (fun e b => L (i + 1) e ∧ b = A (i + 1)) (fun _ _ => False))) (hd : ∀ δ', L n δ' → N δ' (A n)) (hs : ∀ x, foldedSetIterable iter X.env x = pure x := by intro _; rfl) :
    PS X (.For tg iter body [] pos) (tPh X.K C ip G0 H0 p cs δ a N R) := by
  let ti : TI := fun σ H R => ∃ gh : Hp × Hp, tI X.K (pf C gh.1 gh.2) δ0 (fun e => e = rngD lo n) σ H R
  have hit : PI X tg iter ti := ⟨fun pins s σ H R I ⟨gh, q⟩ => (hi gh.1 gh.2).run pins s σ H R I q⟩
  let tb : TS := fun Dn σ H => ∃ x : (Hp × Hp) × Nat × List Sl, (x.2.1 < n ∧ L x.2.1 x.2.2) ∧ tPh X.K C ip x.1.1 x.1.2 p cs (x.2.2.set j (.dat (.int (lo + (x.2.1 : Nat))))) (A x.2.1) (fun e b => L (x.2.1 + 1) e ∧ b = A (x.2.1 + 1)) (fun _ _ => False) Dn σ H
  have hbt : PSs X body tb := pss_ex fun x ⟨h1, h2⟩ => hb x.1.1 x.1.2 x.2.1 x.2.2 h1 h2
  refine ps_imp (ps_for (tb := tb) hp hc hit hg hbt hs) ?_
  rintro Dn σ H ⟨G, ph, sl, hn, hr⟩
  have sl0 : Sls X.K C G p ip σ δ0 := ⟨by rw [hl0]; exact sl.len, fun i => by
    rcases hw i with h | ⟨d, h1, h2, h3⟩
    · rw [h]; exact True.intro
    · have := sl.slot i
      rw [h2] at this
      obtain ⟨v, q1, q2⟩ := this
      rw [h1]
      exact ⟨v, q1, q2.thin (ext_thin ph.own) h3⟩, sl.pin⟩
  refine ⟨(G, H), G, sl0.rep ph.sub, fun J ds G1 H1 t1 p1 it => ?_⟩
  subst p1
  have tp : PStep G H G1 H1 := t1.p
  have gn : ∀ x, (x = p ∨ x ∈ cs) → G1 x = none := fun x h => by
    cases q : G1 x with
    | none => rfl
    | some o => exact absurd (ph.own.gx h) (tp.fr x (ph.own.hx h) (ne_none q))
  have ph1 : Ph X.K C G0 H0 p cs a G1 H1 := by
    refine ⟨tp.gh, ⟨?_, gn p (.inl rfl), ph.own.len, ph.own.nd, fun k c e => ?_⟩, ph.gg.trans tp.gg, fun x o h1 h2 e => tp.hh x o (ph.hh x o h1 h2 e), fun x h1 h2 => ?_⟩
    · obtain ⟨dx, ys, tc, e, z, q⟩ := ph.own.ins
      exact ⟨dx, ys, tc, tp.hh _ _ e, z.mono tp.gg, tp.gg.sqT q⟩
    · exact ⟨tp.hh _ _ (ph.own.dic k c e).1, gn c (.inr (List.mem_of_getElem? e))⟩
    · by_cases e : x = p ∨ x ∈ cs
      · rw [gn x e] at h2; exact absurd rfl h2
      · refine ph.fr x h1 (tp.fr x ?_ h2)
        cases q : H0 x with
        | none => exact absurd q h1
        | some o => exact ne_none (ph.hh x o (fun z => e (.inl z)) (fun z => e (.inr z)) q)
  have s1 : Sub (ext G H p cs) (ext G1 H1 p cs) := fun x o h => by
    by_cases e : x = p ∨ x ∈ cs
    · rw [ext_in e] at h ⊢; exact tp.hh x o h
    · rw [ext_out e] at h ⊢; exact tp.gg x o h
  refine ⟨fun i m σ' H' => i + m = n ∧ ∃ δ' G', L i δ' ∧ Ph X.K C G1 H1 p cs (A i) G' H' ∧ Sls X.K C (ext G' H' p cs) p ip σ' δ', ⟨n, by omega, δ, G1, h0, hA ▸ ⟨ph1.sub, ph1.own, Sub.refl _, fun _ _ _ _ h => h, fun _ _ h => h⟩, sl.mono s1⟩, ?_⟩
  rintro i m σ' H' ⟨him, δ', G', hl, ph', sl'⟩
  cases m with
  | zero =>
    have e : i = n := by omega
    subst e
    exact .inl ⟨by have := (it G' H' ⟨ph'.gg, ph'.sub⟩).2; rwa [rngD_len] at this, hn δ' _ σ' G' H' (hd δ' hl) (ph1.trans ph') sl'⟩
  | succ m =>
    have l : i < n := by omega
    obtain ⟨go, yl⟩ := (it G' H' ⟨ph'.gg, ph'.sub⟩).1 i _ (rngD_at l)
    refine .inr ⟨go, fun σ2 H2 => ∃ m', m' < m + 1 ∧ i + 1 + m' = n ∧ ∃ δ' G', L (i + 1) δ' ∧ Ph X.K C G1 H1 p cs (A (i + 1)) G' H2 ∧ Sls X.K C (ext G' H2 p cs) p ip σ2 δ', fun σ2 H2 h2 => h2, fun x H3 hy => ?_⟩
    obtain ⟨rfl, zd⟩ := yl x H3 hy
    refine ⟨((G1, H1), i, δ'), ⟨l, hl⟩, G', ph', sl'.set (hL i δ' hl) hj (zd.mono ph'.own.sub), fun δ2 b σ2 G2 H2 n2 ph2 sl2 => ?_, fun _ _ f => f.elim⟩
    obtain ⟨n3, rfl⟩ := n2
    exact ⟨m, by omega, by omega, δ2, G2, n3, ph2, sl2⟩
end
end Un
set_option maxHeartbeats 4000000
namespace Un
open PySem L2 TL
abbrev Let := Nat × Nat × Int
def takes (a : Pa) (ls : List Let) : Pa := ls.foldl Pa.take a
theorem takes_snoc (a : Pa) (ls : List Let) (l : Let) : takes a (ls ++ [l]) = (takes a ls).take l := by unfold takes; rw [List.foldl_append]; rfl
theorem takes_same (a : Pa) : ∀ ls : List Let, (takes a ls).se = a.se ∧ (takes a ls).rows = a.rows ∧ (takes a ls).num = a.num ∧ (takes a ls).inputs = a.inputs ∧ (takes a ls).coins = a.coins := by
  intro ls
  induction ls generalizing a with
  | nil => exact ⟨rfl, rfl, rfl, rfl, rfl⟩
  | cons l ls ih => exact ih (a.take l)
theorem takes_took (a : Pa) (ls : List Let) : (takes a ls).took = a.took ++ ls := by
  induction ls generalizing a with
  | nil => exact (List.append_nil _).symm
  | cons l ls ih =>
    show (takes (a.take l) ls).took = _
    rw [ih]
    show (a.took ++ [l]) ++ ls = _
    rw [List.append_assoc]; rfl
theorem take_len (a : Pa) (l : Let) : (a.take l).came.length = a.came.length := by
  show (a.came.set _ _).length = _
  rw [List.length_set]
theorem take_came (a : Pa) (l : Let) (h : l.1 < a.came.length) (k : Nat) : cameL (a.take l) k = if l.1 = k then cameL a k ++ [(l.2.1, l.2.2)] else cameL a k := by
  show (a.came.set l.1 (cameL a l.1 ++ [(l.2.1, l.2.2)])).getD k [] = _
  rw [List.getD_eq_getElem?_getD]
  by_cases e : l.1 = k
  · subst e
    rw [List.getElem?_set_self h, if_pos rfl]; rfl
  · rw [List.getElem?_set_ne e, if_neg e]
    unfold cameL
    rw [List.getD_eq_getElem?_getD]
theorem takes_came (a : Pa) (ls : List Let) (h : ∀ l ∈ ls, l.1 < a.came.length) : (takes a ls).came.length = a.came.length ∧ ∀ k, cameL (takes a ls) k = cameL a k ++ (ls.filter fun l => decide (l.1 = k)).map fun l => (l.2.1, l.2.2) := by
  induction ls generalizing a with
  | nil => exact ⟨rfl, fun k => (List.append_nil _).symm⟩
  | cons l ls ih =>
    obtain ⟨h1, h2⟩ := ih (a.take l) fun x hx => by rw [take_len]; exact h x (List.mem_cons_of_mem _ hx)
    refine ⟨h1.trans (take_len a l), fun k => ?_⟩
    show cameL (takes (a.take l) ls) k = _
    rw [h2 k, take_came a l (h l List.mem_cons_self), List.filter_cons]
    by_cases e : l.1 = k
    · rw [if_pos e, if_pos (decide_eq_true e), List.append_assoc]; rfl
    · rw [if_neg e, if_neg (by simp [e])]
theorem let_same {a b : Pa} (h1 : b.se = a.se) (h2 : b.rows = a.rows) (h3 : b.num = a.num) {l : Let} (lo : LetOk a l) : LetOk b l := ⟨h2 ▸ lo.k, lo.i1, h1 ▸ lo.i2, h2 ▸ h3 ▸ lo.s, lo.x1, h1 ▸ lo.x2⟩
structure LetsOk (a : Pa) (ls : List Let) : Prop where
  ok : ∀ l ∈ ls, LetOk a l
  nd : (ls.map fun l => (l.1, l.2.1)).Nodup
  len : ls.length ≤ 500
theorem new_came (se : Se) (rows : List Row) (num : Nat) (inputs coins : List Int) (k : Nat) : cameL (newPa se rows num inputs coins) k = [] := by
  show (rows.map fun _ => ([] : Came)).getD k [] = []
  rw [List.getD_eq_getElem?_getD, List.getElem?_map]
  cases rows[k]? <;> rfl
theorem new_len (se : Se) (rows : List Row) (num : Nat) (inputs coins : List Int) : (newPa se rows num inputs coins).came.length = rows.length := by show (rows.map fun _ => ([] : Came)).length = _; rw [List.length_map]
section
variable {se : Se} {rows : List Row} {num : Nat} {inputs coins : List Int}
/-- before the next letter -/
theorem next_let {pre : List Let} {l : Let} {post : List Let} (hl : LetsOk (newPa se rows num inputs coins) (pre ++ l :: post)) :
    LetOk (takes (newPa se rows num inputs coins) pre) l ∧ (cameL (takes (newPa se rows num inputs coins) pre) l.1).lookup l.2.1 = none ∧ (cameL (takes (newPa se rows num inputs coins) pre) l.1).length < 1000 ∧ (takes (newPa se rows num inputs coins) pre).took.length < 1000 ∧ ∀ x ∈ pre, ¬ (x.1 = l.1 ∧ x.2.1 = l.2.1) := by
  obtain ⟨s1, s2, s3, _, _⟩ := takes_same (newPa se rows num inputs coins) pre
  have ln := hl.len
  rw [List.length_append] at ln
  have lk : ∀ x ∈ pre, x.1 < (newPa se rows num inputs coins).came.length := fun x hx => by
    rw [new_len]; exact (hl.ok x (List.mem_append_left _ hx)).k
  have hc := (takes_came _ pre lk).2 l.1
  rw [new_came, List.nil_append] at hc
  have nd := hl.nd
  rw [List.map_append, List.map_cons] at nd
  have hne : ∀ x ∈ pre, ¬ (x.1 = l.1 ∧ x.2.1 = l.2.1) := fun x hx ⟨e1, e2⟩ => by
    have := (List.nodup_append.mp nd).2.2 (x.1, x.2.1) (List.mem_map.mpr ⟨x, hx, rfl⟩) (l.1, l.2.1) List.mem_cons_self
    exact this (by rw [e1, e2])
  refine ⟨let_same s1 s2 s3 (hl.ok l (by simp)), ?_, ?_, ?_, hne⟩
  · rw [hc, List.lookup_eq_none_iff]
    intro y hy
    obtain ⟨x, hx, rfl⟩ := List.mem_map.mp hy
    obtain ⟨hx1, hx2⟩ := List.mem_filter.mp hx
    have := hne x hx1
    have e1 : x.1 = l.1 := of_decide_eq_true hx2
    exact bne_iff_ne.mpr fun e => this ⟨e1, e.symm⟩
  · rw [hc, List.length_map]
    have := List.length_filter_le (fun x : Let => decide (x.1 = l.1)) pre
    omega
  · rw [takes_took]
    show (([] : List Let) ++ pre).length < 1000
    rw [List.nil_append]; omega
theorem takes_ok (ok : (newPa se rows num inputs coins).Ok) : ∀ (pre post : List Let), LetsOk (newPa se rows num inputs coins) (pre ++ post) → (takes (newPa se rows num inputs coins) pre).Ok := by
  intro pre
  generalize hn : pre.length = n
  induction n generalizing pre with
  | zero => intro post _; rw [List.length_eq_zero_iff.mp hn]; exact ok
  | succ n ih =>
    intro post hl
    rcases List.eq_nil_or_concat pre with e | ⟨p, l, e⟩
    · rw [e] at hn; cases hn
    · have e : pre = p ++ [l] := by rw [e]; simp
      subst e
      rw [List.append_assoc] at hl
      have hp := ih p (by rw [List.length_append, List.length_singleton] at hn; omega) (l :: post) hl
      obtain ⟨h1, h2, _⟩ := next_let hl
      rw [takes_snoc]
      exact tk_ok (put_ok hp h1 h2) l
end
def gotS (l : Let) : Str := lineS "got" [(l.1 : Int), (l.2.1 : Int), l.2.2]
def paperL (num : Nat) (inputs coins : List Int) (ls : List Let) : List Str := lineS "party" [(num : Int)] :: lineS "inputs" inputs :: lineS "coins" coins :: ls.map gotS
def S_read_paper (ds : List D) (d : D) : Prop := ∃ (se : Se) (rows : List Row) (num : Nat) (inputs coins : List Int) (ls : List Let), ds = [se.d, progD rows, .str (textS (paperL num inputs coins ls))] ∧ (newPa se rows num inputs coins).Ok ∧ (∀ z ∈ coins, 0 ≤ z ∧ z < se.p) ∧ LetsOk (newPa se rows num inputs coins) ls ∧ d = (takes (newPa se rows num inputs coins) ls).d
theorem let_eqv (m : Nat) (x y : Let) : PyData.eqv (pyD (letD m x)) (pyD (letD m y)) = true → x.1 = y.1 ∧ x.2.1 = y.2.1 := by
  have e : ∀ a b : Nat, (((a : Nat) : Int) == ((b : Nat) : Int)) = decide (a = b) := fun a b => dec_nat a b
  simp [letD, pyD, pysD, PyData.eqv, PyData.eqvAll, e]
  intro h1 h2 _; exact ⟨h1, h2⟩
theorem not_took {m : Nat} {l : Let} : ∀ {t : List Let}, (∀ x ∈ t, ¬ (x.1 = l.1 ∧ x.2.1 = l.2.1)) → ((pysD (t.map (letD m))).any fun z => PyData.eqv z (pyD (letD m l))) = false
  | [], _ => by simp [pysD]
  | x :: t, h => by
    rw [List.map_cons]
    unfold pysD
    rw [List.any_cons, not_took fun y hy => h y (List.mem_cons_of_mem _ hy), Bool.or_false]
    cases q : PyData.eqv (pyD (letD m x)) (pyD (letD m l)) with
    | false => rfl
    | true => exact absurd (let_eqv m x l q) (h x List.mem_cons_self)
end Un
set_option maxHeartbeats 4000000
namespace Un
open PySem L2 TL
def okSl : Sl → Bool
  | .no => true
  | .dat _ => true
  | _ => false
theorem text_len {ls : List Str} {m : Nat} (h : ∀ l ∈ ls, l.length ≤ m) : (textS ls).length ≤ ls.length * (m + 1) := by
  unfold textS
  have := join_len (y := "") (l := ls.map fun l => l ++ "\n") (m := m + 1) fun p hp => by
    obtain ⟨l, hl, rfl⟩ := List.mem_map.mp hp
    have := h l hl
    rw [len_tl, tl_append, List.length_append, ← len_tl, show (tl "\n").length = 1 by decide +kernel]
    omega
  rw [List.length_map, show ("" : Str).length = 0 by decide +kernel] at this
  exact this
theorem prog_thin (rows : List Row) : thinD (progD rows) = true := by
  have h : thinDs (rows.map Row.d) = true := thin_map _ (fun r => by cases r <;> simp [Row.d, Row.args, thinD, thinDs]) _
  simp [progD, thinD, thinDs, h]
section
variable {X : Cx} {C : Addr} {G0 H0 : Hp} {δ : List Sl} {p' pos ppos : Pos} {e : Expr} {es : List Expr}
/-- party = head_of(..); then with the party -/
theorem ss_head {i : Nat} {y x : Str} {rest : List Stmt} {se : Se} {rows : List Row} {ls : List Str} {num : Nat} {inputs coins : List Int} {N : List Sl → Prop} {R : V → Hp → Prop} {pn : Pos}
    (hN : X.N.Nodup) (hi : X.N[i]? = some y) (hx : Loc X.env.scope y) (hl : i < δ.length) (c : Glo X.prog X.w X.K X.mg X.base x 8 ["setting", "program", "lines"] (spHead X.K C)) (hr : Room 8 X.A) (ha : PA X (e :: es) (tL X.K (pf C G0 H0) δ [se.d, progD rows, .lst (ls.map D.str)])) (hk : HeadOk ls (newPa se rows num inputs coins))
    (hno : ∀ i, okSl (dAt δ i) = true)
    (h2 : ∀ p cs, H0 p = none → (∀ c ∈ cs, H0 c = none) → PSs X rest (tPh X.K C i G0 H0 p cs (δ.set i (.dat (newPa se rows num inputs coins).d)) (newPa se rows num inputs coins) (fun _ _ => False) R))
    (hg : Gl X x := by rfl) (hdb : (x == ("__debug__" : Str)) = false := by decide) (he : starEach (e :: es) X.env = (false, eval e X.env) :: starEach es X.env := by rfl) (hpl : (backTo ppos (starEach es X.env)).any (·.1) = false := by rfl)
    (hs : swapsWith (.Call (.Name x p') (e :: es) [] ppos) (some (.Name y pn)) pos.line X.env = pure false := by rfl) (hf : X.fn y = true ∨ X.env.scope.names.lookup y = some .local := by first | exact .inl rfl | exact .inr rfl | assumption) :
    PSs X (.Assign [.Name y pn] (.Call (.Name x p') (e :: es) [] ppos) pos :: rest) (tX X.K (pf C G0 H0) δ N R) := by
  obtain ⟨g, fd, F, hm, hkp, hb⟩ := c.ex
  refine pss_imp (pss_cons (ps_set hN hi hx (pe_call F hr hg hm hkp hb .nil pass0 ha hdb he hpl) hs hf) (pss_ex (α := Addr × List Addr) (p := fun z => H0 z.1 = none ∧ ∀ c ∈ z.2, H0 c = none) (t := fun z => tPh X.K C i G0 H0 z.1 z.2 (δ.set i (.dat (newPa se rows num inputs coins).d)) (newPa se rows num inputs coins) (fun _ _ => False) R) fun z hz => h2 z.1 z.2 hz.1 hz.2)) fun Dn σ H ⟨G, rp, hn, hrt⟩ => ⟨G, rp, fun vs ds G1 H1 t1 e1 z1 => ?_⟩
  subst e1
  rw [List.append_nil]
  have tp : PStep G0 H0 G1 H1 := (rp.st.trans t1).p
  have rp1 := rp.step t1
  refine ⟨G1, se, rows, ls, num, inputs, coins, t1.gh, z1, hk, fun p cs G' H' b => ?_⟩
  have none0 : ∀ q, H1 q = none → H0 q = none := fun q h => by
    cases e : H0 q with
    | none => rfl
    | some o => rw [tp.hh q o e] at h; cases h
  refine ⟨(p, cs), ⟨none0 p b.newp, fun c hc => none0 c (b.new c hc)⟩, G', ⟨b.sub, b.own, tp.gg.trans b.gg, fun x o _ _ h => b.hh x o (tp.hh x o h), fun x h1 h2 => tp.fr x h1 (b.fr x ?_ h2)⟩, ⟨by rw [List.length_set, List.length_set]; exact rp1.len, fun j => ?_, by rw [sAt_set (by rw [rp1.len]; exact hl), if_pos rfl]⟩, fun _ _ _ _ _ f => f.elim, hrt⟩
  · cases q : H0 x with
    | none => exact absurd q h1
    | some o => exact ne_none (tp.hh x o q)
  · rw [dAt_set hl, sAt_set (by rw [rp1.len]; exact hl)]
    by_cases e : i = j
    · rw [if_pos e, if_pos e]; exact ⟨_, rfl, b.own.dat⟩
    · rw [if_neg e, if_neg e]
      have s := rp1.slot j
      have no := hno j
      cases q : dAt δ j with
      | no => exact True.intro
      | dat d => rw [q] at s; obtain ⟨v, s1, s2⟩ := s; exact ⟨v, s1, s2.mono (b.gg.trans b.own.sub)⟩
      | own _ => rw [q] at no; cases no
      | pin _ => rw [q] at no; cases no
      | ownd _ => rw [q] at no; cases no
end
section
variable {P : Program} {w : World} {K : PySem.W.Frag} {mg : Str → Option Value} {base : Heap} {C : Addr} {g : Addr} {fd : FuncData}
abbrev s_read_paper : Stmt := top 46
abbrev N_read_paper : List Str := ["setting", "program", "text", "lines", "party", "at", "numbers", "letter"]
theorem sc_read_paper : FnScope N_read_paper ["setting", "program", "text"] (defScope s_read_paper) := ⟨rfl, rfl, rfl, by decide +kernel, rfl, by decide +kernel, by decide +kernel⟩
theorem ok_read_paper (B : Bt mg) (c : Ca K C) (c_lines_of : Glo P w K mg base "lines_of" 1 ["text"] (spN K C 1 S_lines_of)) (c_head_of : Glo P w K mg base "head_of" 8 ["setting", "program", "lines"] (spHead K C)) (c_numbers_in : Glo P w K mg base "numbers_in" 2 ["lines", "at", "word"] (spD K C 3 S_numbers_in))
    (c_number : Prp P w K mg base C "number" 1 (spD K C 1 S_number)) (c_took : Prp P w K mg base C "took" 1 (spD K C 1 S_took)) (c_take : Mtd P w K mg base C "take" 9 ["self", "letter"] (spTake K C))
    (F : Fun K "read_paper" "read_paper" s_read_paper g fd) : FnOk P w K mg base CX0 10 g fd ["setting", "program", "text"] (spD K C 3 S_read_paper) := by
  refine fn_D F sc_read_paper rfl fun cdv A outer s H E G ds d hr hS => ?_
  obtain ⟨se, rows, num, inputs, coins, ls, rfl, ok, hcr, hls, rfl⟩ := hS
  have nd := sc_read_paper.nd
  have hu : (bX P w K mg base N_read_paper "read_paper" s_read_paper g cdv A outer s H E).A.units + 65 < cLine := by have := hr.un; omega
  have sok : se.Ok := ok.se
  have p2 := sok.p2; have p3 := sok.p3; have n2 := sok.n2; have tn := sok.tn
  have hz : rows.length ≤ 60 := ok.rows.1
  have hn2 : num ≤ se.n := ok.n2
  have ir : ∀ z ∈ inputs, 0 ≤ z ∧ z < se.p := ok.inr
  have hin : inputs.length = usedAt num rows rows.length := ok.inl
  have hco : coins.length = atAt se.t num rows rows.length := ok.col
  have il : inputs.length ≤ 60 := by
    rw [hin]; unfold usedAt; rw [take_all]
    exact Nat.le_trans (List.length_filter_le _ _) hz
  have cl : coins.length ≤ 120 := by
    rw [hco]; unfold atAt
    have h1 : ((rows.take rows.length).filter (mine num)).length ≤ 60 := by
      rw [take_all]
      exact Nat.le_trans (List.length_filter_le _ _) hz
    exact Nat.le_trans (Nat.mul_le_mul (show se.t ≤ 2 by omega) h1) (by decide)
  have lr : ∀ l ∈ ls, ∀ z ∈ [(l.1 : Int), (l.2.1 : Int), l.2.2], 0 ≤ z ∧ z < 100000 := fun l hl z hz' => by
    have lo := hls.ok l hl
    have h1 : l.1 < rows.length := lo.k
    have h2 : l.2.1 ≤ se.n := lo.i2
    have h3 := lo.x1
    have h4 : l.2.2 < se.p := lo.x2
    simp only [List.mem_cons, List.not_mem_nil, or_false] at hz'
    omega
  have hlen : (paperL num inputs coins ls).length = 3 + ls.length := by unfold paperL; simp; omega
  have hfree : ∀ l ∈ paperL num inputs coins ls, 10 ∉ tl l := fun l hl => by
    unfold paperL at hl
    simp only [List.mem_cons] at hl
    rcases hl with rfl | rfl | rfl | hl
    · exact line_free (by decide +kernel) fun z hz => by rw [List.mem_singleton.mp hz]; omega
    · exact line_free (by decide +kernel) fun z hz => (ir z hz).1
    · exact line_free (by decide +kernel) fun z hz => (hcr z hz).1
    · obtain ⟨x, hx, rfl⟩ := List.mem_map.mp hl
      exact line_free (by decide +kernel) fun z hz => (lr x hx z hz).1
  have htz : (textS (paperL num inputs coins ls)).length ≤ 1000000 := by
    have h1 := text_len (ls := paperL num inputs coins ls) (m := 1331) fun l hl => by
      unfold paperL at hl
      simp only [List.mem_cons] at hl
      rcases hl with rfl | rfl | rfl | hl
      · exact Nat.le_trans (line_len (by decide +kernel) fun z hz => by rw [List.mem_singleton.mp hz]; omega) (le_ rfl)
      · refine Nat.le_trans (line_len (by decide +kernel) fun z hz => by have := ir z hz; omega) ?_
        have := Nat.mul_le_mul_right 11 (show inputs.length + 1 ≤ 121 by omega); omega
      · refine Nat.le_trans (line_len (by decide +kernel) fun z hz => by have := hcr z hz; omega) ?_
        have := Nat.mul_le_mul_right 11 (show coins.length + 1 ≤ 121 by omega); omega
      · obtain ⟨x, hx, rfl⟩ := List.mem_map.mp hl
        exact Nat.le_trans (line_len (by decide +kernel) (lr x hx)) (le_ rfl)
    have h2 := hls.len
    rw [hlen] at h1
    have := Nat.mul_le_mul_right 1332 (show 3 + ls.length ≤ 503 by omega)
    omega
  have hk : HeadOk (paperL num inputs coins ls) (newPa se rows num inputs coins) := ⟨ok, rfl, rfl, rfl, hcr⟩
  refine s_seq (s_set (i := 3) (d := .lst ((paperL num inputs coins ls).map D.str)) nd rfl (.inl rfl) (lt_ rfl) (x_frz (x_callN c_lines_of (hr.mono (by decide)) (a_cons (x_of (pv 2) rfl) a_nil) ⟨rfl, _, rfl, hfree, htz, rfl⟩)) rfl) ?_
  refine ss_head (i := 4) (num := num) (inputs := inputs) (coins := coins) nd rfl (.inl rfl) (lt_ rfl) c_head_of (hr.mono (by decide)) (a_cons (x_of (pv 0) rfl) (a_cons (x_of (pv 1) rfl) (a_cons (x_of (pv 3) rfl) a_nil))) hk (fun i => ?_) (fun p cs hp hc => ?_)
  · match i with
    | 0 => rfl
    | 1 => rfl
    | 2 => rfl
    | 3 => rfl
    | 4 => rfl
    | 5 => rfl
    | 6 => rfl
    | 7 => rfl
    | n + 8 => rfl
  have hr0 : ((((paperL num inputs coins ls).map D.str).length : Nat) : Int) - 3 = ((ls.length : Nat) : Int) := by rw [List.length_map, hlen]; omega
  have hl500 := hls.len
  refine ph_cons (N1 := fun e b => b = takes (newPa se rows num inputs coins) ls ∧ ∃ v5 v6 v7, e = [.dat se.d, .dat (progD rows), .dat (.str (textS (paperL num inputs coins ls))), .dat (.lst ((paperL num inputs coins ls).map D.str)), .dat (takes (newPa se rows num inputs coins) ls).d, v5, v6, v7])
    (ph_for (n := ls.length) (lo := 3) (j := 5) (δ0 := [.dat se.d, .dat (progD rows), .dat (.str (textS (paperL num inputs coins ls))), .dat (.lst ((paperL num inputs coins ls).map D.str)), .no, .no, .no, .no]) (fun i => takes (newPa se rows num inputs coins) (ls.take i))
      (fun i e => ∃ v5 v6 v7, e = [.dat se.d, .dat (progD rows), .dat (.str (textS (paperL num inputs coins ls))), .dat (.lst ((paperL num inputs coins ls).map D.str)), .dat (takes (newPa se rows num inputs coins) (ls.take i)).d, v5, v6, v7]) PassesOwn.never rfl
      (fun G H => by
        rw [← Int.toNat_natCast ls.length, ← hr0]
        exact i_rng2 (by omega) (by rw [List.length_map, hlen]; omega) rfl B.range x_int (x_len rfl B.len (o_l (o_lst (x_of (pv 3) rfl))))) (pg_name (i := 5) nd rfl (.inl rfl)) (by decide) rfl ?_ ?_ rfl ?_ ?_ ?_) ?_
  · intro i
    match i with
    | 0 => exact .inr ⟨_, rfl, rfl, by simp [Se.d, thinD, thinDs]⟩
    | 1 => exact .inr ⟨_, rfl, rfl, prog_thin rows⟩
    | 2 => exact .inr ⟨_, rfl, rfl, by simp [thinD]⟩
    | 3 => exact .inr ⟨_, rfl, rfl, by unfold thinD; exact thin_map _ (fun x => by simp [thinD]) _⟩
    | 4 => exact .inl rfl
    | 5 => exact .inl rfl
    | 6 => exact .inl rfl
    | 7 => exact .inl rfl
    | n + 8 => exact .inl rfl
  · exact ⟨.no, .no, .no, rfl⟩
  · rintro i _ ⟨v5, v6, v7, rfl⟩; exact lt_ rfl
  · rintro G0 H0 i _ hi ⟨v5, v6, v7, rfl⟩
    have hi' : ls[i]? = some ls[i] := List.getElem?_eq_getElem hi
    have hsp := split_at hi'
    have hl2 : LetsOk (newPa se rows num inputs coins) (ls.take i ++ ls[i] :: ls.drop (i + 1)) := by rw [← hsp.1]; exact hls
    obtain ⟨q1, q2, q3, q4, q5⟩ := next_let hl2
    have qok := takes_ok ok (ls.take i) (ls[i] :: ls.drop (i + 1)) hl2
    obtain ⟨e1, e2, e3, e4, e5⟩ := takes_same (newPa se rows num inputs coins) (ls.take i)
    have en : (takes (newPa se rows num inputs coins) (ls.take i)).num = num := e3
    have et : (takes (newPa se rows num inputs coins) (ls.take i)).took = ls.take i := by rw [takes_took]; exact List.nil_append _
    have lo := hls.ok ls[i] (List.getElem_mem hi)
    have hat : (paperL num inputs coins ls)[3 + i]? = some (gotS ls[i]) := by
      unfold paperL
      rw [Nat.add_comm 3 i]
      show (ls.map gotS)[i]? = _
      rw [List.getElem?_map, hi']; rfl
    refine ph_seq (ph_set (i := 6) (d := .tup (inz [(ls[i].1 : Int), (ls[i].2.1 : Int), ls[i].2.2])) nd rfl (.inl rfl) (lt_ rfl) (by decide) (fun G H => x_call c_numbers_in (hr.mono (by decide)) (a_cons (x_of (pv 3) rfl) (a_cons (x_eq (x_of (pv 5) rfl) (d' := .int ((3 + i : Nat) : Int)) (by congr 1)) (a_cons x_str a_nil))) ⟨rfl, _, 3 + i, "got", _, rfl, hat, by decide +kernel, by decide +kernel, le_ rfl, lr _ (List.getElem_mem hi), rfl⟩) rfl) ?_
    refine ph_seq (ph_if0 fun G H => t_is (t_cmp op_ne rd_neI (x_len rfl B.len (o_tup (x_of (pv 6) rfl))) x_int (nomark _)) rfl) ?_
    refine ph_seq (ph_set (i := 7) (d := letD num ls[i]) nd rfl (.inl rfl) (lt_ rfl) (by decide) (fun G H => x_tup (a_cons x_str (a_cons (x_ixt (x_of (pv 6) rfl) x_int rfl) (a_cons (x_ixt (x_of (pv 6) rfl) x_int rfl) (a_cons (x_prop c.cl c_number (hr.mono (by decide)) (x_of (pv 4) rfl) ⟨_, rfl, by rw [en]⟩) (a_cons (x_ixt (x_of (pv 6) rfl) x_int rfl) a_nil)))))) rfl) ?_
    refine ph_seq (ph_if0 fun G H => t_is (t_inT hu (x_of (pv 7) rfl) (x_eq (x_prop c.cl c_took (hr.mono (by decide)) (x_of (pv 4) rfl) ⟨_, rfl, rfl⟩) (by rw [en, et])) (let_ok _ _) (lets_pure ((ls.take i).map (letD num)) fun d hd => by obtain ⟨x, _, rfl⟩ := List.mem_map.mp hd; exact ⟨num, x, rfl⟩).1 (lets_pure ((ls.take i).map (letD num)) fun d hd => by obtain ⟨x, _, rfl⟩ := List.mem_map.mp hd; exact ⟨num, x, rfl⟩).2) (not_took q5)) ?_
    have ht : takes (newPa se rows num inputs coins) (ls.take (i + 1)) = (takes (newPa se rows num inputs coins) (ls.take i)).take ls[i] := by rw [hsp.2, takes_snoc]
    refine pss_one (ps_try_thru0 (pss_one (ph_weak (ph_take (l := ls[i]) c.cl c_take (hr.mono (by decide)) (pv 4) (fun G H => x_eq (x_of (pv 7) rfl) (by rw [en])) qok q1 q2 q3 q4 (lt_ rfl) ?_ rfl) ?_)))
    · show ([Sl.dat se.d, .dat (progD rows), .dat (.str (textS (paperL num inputs coins ls))), .dat (.lst ((paperL num inputs coins ls).map D.str)), .no, .dat (.int (3 + (i : Nat))), .dat (.tup (inz [(ls[i].1 : Int), (ls[i].2.1 : Int), ls[i].2.2])), .dat (letD num ls[i])] : List Sl).all slThin = true
      have h1 : thinD (.lst ((paperL num inputs coins ls).map D.str)) = true := by unfold thinD; exact thin_map _ (fun x => by simp [thinD]) _
      simp only [List.all_cons, List.all_nil, slThin, h1, prog_thin, let_thin, Bool.and_true]
      simp [Se.d, thinD, thinDs]
    · rintro e b ⟨rfl, rfl⟩
      refine ⟨⟨.dat (.int (3 + (i : Nat))), .dat (.tup (inz [(ls[i].1 : Int), (ls[i].2.1 : Int), ls[i].2.2])), .dat (letD num ls[i]), ?_⟩, ht.symm⟩
      rw [ht]; rfl
  · rintro _ ⟨v5, v6, v7, rfl⟩
    rw [List.take_length]
    exact ⟨rfl, v5, v6, v7, rfl⟩
  · rintro _ _ ⟨rfl, v5, v6, v7, rfl⟩
    exact pss_one (ph_retD (fun G H => x_of (pv 4) rfl) hp hc)
end
end Un
set_option maxHeartbeats 4000000
namespace Un
open PySem L2 TL
structure Crew (se : Se) (rows : List Row) (kvs : List (Key × D)) (cr : Nat → Pa) (W : Nat → Prop) : Prop where
  sok : se.Ok
  rok : rows.length ≤ 60
  get : ∀ i, W i → valD kvs (Sum.inl ((i : Nat) : Int)) = some (cr i).d
  ok : ∀ i, W i → (cr i).Ok
  sse : ∀ i, W i → (cr i).se = se
  srows : ∀ i, W i → (cr i).rows = rows
  snum : ∀ i, W i → (cr i).num = i
  full : ∀ i, W i → ∀ k r, rows[k]? = some r → ∀ j, 1 ≤ j → j ≤ se.n → sendsM r j i = true → ∃ x, (cameL (cr i) k).lookup j = some x
def shAtM (rows : List Row) (a : Pa) (k : Nat) : Option Int := (shTo a rows.length).getD k none
def cfM (a : Pa) (k i : Nat) : Int := ((cameL a k).lookup i).getD 0
def sharesOfM (rows : List Row) (cr : Nat → Pa) (k : Nat) (so : List Nat) : D := .tup (so.map fun i => optD (shAtM rows (cr i) k))
def seenByM (se : Se) (rows : List Row) (cr : Nat → Pa) (k : Nat) (so : List Nat) : D := .tup ((ptsN se.n).map fun i => if i ∈ so then .tup (inz (drawnAt se.t i rows (cr i).coins k)) else .tup (so.map fun o => .int (cfM (cr o) k i)))
def toldToM (se : Se) (rows : List Row) (cr : Nat → Pa) (k a j : Nat) : D := .tup ((ptsN se.n).map fun o => if o = j then optD (shAtM rows (cr j) a) else .int (cfM (cr j) k o))
def wsAt (ws : List (List Nat)) (z : Int) : List Nat := (atI ws z).getD []
def wkM (rows : List Row) (ws : List (List Nat)) (k : Nat) : List Nat := ws.getD (epochM rows k) []
def bothM (rows : List Row) (ws : List (List Nat)) (k : Nat) : List Nat := (wkM rows ws k).filter fun i => decide (i ∈ wsAt ws ((epochM rows k : Nat) - 1))
def itemR (se : Se) (rows : List Row) (ws : List (List Nat)) (cr : Nat → Pa) (k : Nat) (r : Row) : D := match r with
  | .inp j => if j ∈ wkM rows ws k then .tup [.str "own", .int ((cr j).inputs.getD (usedAt j rows k) 0), .tup (inz (drawnAt se.t j rows (cr j).coins k))] else .tup [.str "sent", sharesOfM rows cr k (wkM rows ws k)]
  | .prod _ _ => seenByM se rows cr k (wkM rows ws k)
  | .kept _ => .tup [seenByM se rows cr k (bothM rows ws k), sharesOfM rows cr k (wkM rows ws k)]
  | .out a j => if j ∈ wkM rows ws k then toldToM se rows cr k a j else .tup []
  | _ => .tup []
def itemM (se : Se) (rows : List Row) (ws : List (List Nat)) (cr : Nat → Pa) (k : Nat) : D := ((rows[k]?).map (itemR se rows ws cr k)).getD (.tup [])
def watD (ws : List (List Nat)) : D := .tup (ws.map fun l => .tup (natz l))
structure WsOk (se : Se) (rows : List Row) (ws : List (List Nat)) (W : Nat → Prop) : Prop where
  ep : ∀ k, k < rows.length → epochM rows k < ws.length
  len : ∀ l ∈ ws, l.length ≤ 100
  mem : ∀ l ∈ ws, ∀ i ∈ l, W i
def S_on_both (ds : List D) (d : D) : Prop := ∃ (se : Se) (rows : List Row) (ws : List (List Nat)) (W : Nat → Prop) (k : Nat), ds = [progD rows, watD ws, .int (k : Int)] ∧ WsOk se rows ws W ∧ rows.length ≤ 60 ∧ k < rows.length ∧ d = .tup (natz (bothM rows ws k))
def S_shares_of_some (ds : List D) (d : D) : Prop := ∃ (se : Se) (rows : List Row) (kvs : List (Key × D)) (cr : Nat → Pa) (W : Nat → Prop) (k : Nat) (so : List Nat), ds = [.dic kvs, .int (k : Int), .tup (natz so)] ∧ Crew se rows kvs cr W ∧ k < rows.length ∧ (∀ i ∈ so, W i) ∧ so.length ≤ 100 ∧ d = sharesOfM rows cr k so
def S_seen_by (ds : List D) (d : D) : Prop := ∃ (se : Se) (rows : List Row) (kvs : List (Key × D)) (cr : Nat → Pa) (W : Nat → Prop) (k : Nat) (so : List Nat) (r : Row), ds = [se.d, .dic kvs, .int (k : Int), .tup (natz so)] ∧ Crew se rows kvs cr W ∧ rows[k]? = some r ∧ (r.tag = 4 ∨ r.tag = 8) ∧ (∀ i ∈ so, W i) ∧ so.length ≤ 100 ∧ d = seenByM se rows cr k so
def S_told_to (ds : List D) (d : D) : Prop := ∃ (se : Se) (rows : List Row) (kvs : List (Key × D)) (cr : Nat → Pa) (W : Nat → Prop) (k a j : Nat), ds = [se.d, (Row.out a j).d, .int (k : Int), (cr j).d] ∧ Crew se rows kvs cr W ∧ rows[k]? = some (.out a j) ∧ W j ∧ d = toldToM se rows cr k a j
def S_item_of (ds : List D) (d : D) : Prop := ∃ (se : Se) (rows : List Row) (kvs : List (Key × D)) (cr : Nat → Pa) (W : Nat → Prop) (ws : List (List Nat)) (k : Nat), ds = [se.d, progD rows, .int (k : Int), .dic kvs, watD ws] ∧ Crew se rows kvs cr W ∧ WsOk se rows ws W ∧ k < rows.length ∧ d = itemM se rows ws cr k
theorem nat_flat : ∀ l : List Nat, (natz l).all flatD = true
  | [] => rfl
  | n :: l => by show (flatD (.int n) && (natz l).all flatD) = true; rw [nat_flat l]; rfl
theorem nat_in (i : Nat) (l : List Nat) : inD (.int (i : Int)) (natz l) = decide (i ∈ l) := by
  unfold inD natz
  rw [List.any_map]
  induction l with
  | nil => rfl
  | cons n l ih =>
    rw [List.any_cons, ih]
    show (eqD (.int n) (.int i) || decide (i ∈ l)) = _
    have : eqD (.int (n : Int)) (.int (i : Int)) = decide (i = n) := by
      show (((n : Nat) : Int) == ((i : Nat) : Int)) = _
      rw [show (((n : Nat) : Int) == ((i : Nat) : Int)) = decide (n = i) from dec_nat n i]
      exact decide_eq_decide.mpr eq_comm
    rw [this]
    by_cases h : i = n
    · simp [h]
    · simp [h]
theorem ws_at {ws : List (List Nat)} {e : Nat} (h : e < ws.length) : atI (ws.map fun l => D.tup (natz l)) ((e : Nat) : Int) = some (.tup (natz (ws.getD e []))) := by
  apply atI_nat
  rw [List.getElem?_map, List.getElem?_eq_getElem h, List.getD_eq_getElem?_getD, List.getElem?_eq_getElem h]; rfl
theorem ws_at1 {ws : List (List Nat)} {e : Nat} (h : e < ws.length) : atI (ws.map fun l => D.tup (natz l)) (((e : Nat) : Int) - 1) = some (.tup (natz (wsAt ws (((e : Nat) : Int) - 1)))) := by
  unfold wsAt
  rcases Nat.eq_zero_or_pos e with q | q
  · subst q
    rcases List.eq_nil_or_concat ws with n | ⟨a, b, n⟩
    · rw [n] at h; exact absurd h (by decide)
    · have n : ws = a ++ [b] := by rw [n]; simp
      subst n
      rw [List.map_append]
      show atI (_ ++ [D.tup (natz b)]) (-1) = some (.tup (natz ((atI (a ++ [b]) (-1)).getD [])))
      rw [atI_last, atI_last]; rfl
  · have hl : e - 1 < ws.length := by omega
    rw [show ((e : Nat) : Int) - 1 = ((e - 1 : Nat) : Int) by omega]
    rw [atI_nat (List.getElem?_eq_getElem hl)]
    apply atI_nat
    rw [List.getElem?_map, List.getElem?_eq_getElem hl]; rfl
section
variable {P : Program} {w : World} {K : PySem.W.Frag} {mg : Str → Option Value} {base : Heap} {C : Addr} {g : Addr} {fd : FuncData}
abbrev s_on_both_sides : Stmt := top 41
abbrev N_on_both_sides : List Str := ["program", "watchers", "k", "epoch", "party"]
theorem sc_on_both_sides : FnScope N_on_both_sides ["program", "watchers", "k"] (defScope s_on_both_sides) := ⟨rfl, rfl, rfl, by decide +kernel, rfl, by decide +kernel, by decide +kernel⟩
theorem ok_on_both_sides (B : Bt mg) (c_epoch_of : Glo P w K mg base "epoch_of" 1 ["program", "k"] (spD K C 2 S_epoch_of)) (F : Fun K "on_both_sides" "on_both_sides" s_on_both_sides g fd) : FnOk P w K mg base CX0 2 g fd ["program", "watchers", "k"] (spD K C 3 S_on_both) := by
  refine fn_D F sc_on_both_sides rfl fun cdv A outer s H E G ds d hr hS => ?_
  obtain ⟨se, rows, ws, W, k, rfl, wok, hz, hk, rfl⟩ := hS
  have nd := sc_on_both_sides.nd
  have he := wok.ep k hk
  have wl : (wkM rows ws k).length ≤ 100 := by
    unfold wkM
    rw [List.getD_eq_getElem?_getD, List.getElem?_eq_getElem he]
    exact wok.len _ (List.getElem_mem he)
  refine s_seq (s_set (i := 3) (d := .int (epochM rows k : Nat)) nd rfl (.inr rfl) (lt_ rfl) (x_call c_epoch_of hr (a_cons (x_of (pv 0) rfl) (a_cons (x_of (pv 2) rfl) a_nil)) ⟨rfl, rows, k, rfl, by omega, rfl⟩) rfl) ?_
  exact s_one (s_ret (x_tuple rfl B.tuple (o_new (x_lcm (l := wkM rows ws k) (h := fun (i : Nat) => D.int ((i : Nat) : Int)) (fun i => decide (i ∈ wsAt ws ((epochM rows k : Nat) - 1))) (fun (i : Nat) => D.int ((i : Nat) : Int)) (j := 4) rfl nd (lt_ rfl) (by omega) (i_s (i_tup (x_ixt (x_of (pv 1) rfl) (x_of (pv 3) rfl) (ws_at he)))) (blkOk_by (N := N_on_both_sides) (sc := defScope s_on_both_sides) (by decide +kernel)) (fun _ _ _ _ _ => pg_name (i := 4) nd rfl (.inl rfl))
      (fun i hi _ _ _ _ _ => ts_one (t_is (t_in (x_of (pv 4) rfl) (o_tup (x_ixt (x_of (pv 1) rfl) (x_sub (x_of (pv 3) rfl) x_int) (ws_at1 he))) rfl (nat_flat _)) (nat_in _ _)))
      (fun a ha hb _ _ _ _ _ => (x_of (pv 4) rfl))))))
abbrev s_shares_of_some : Stmt := top 47
abbrev N_shares_of_some : List Str := ["crew", "k", "some", "party"]
theorem sc_shares_of_some : FnScope N_shares_of_some ["crew", "k", "some"] (defScope s_shares_of_some) := ⟨rfl, rfl, rfl, by decide +kernel, rfl, by decide +kernel, by decide +kernel⟩
theorem sh_at {se : Se} {rows : List Row} {kvs : List (Key × D)} {cr : Nat → Pa} {W : Nat → Prop} (hc : Crew se rows kvs cr W) {i k : Nat} (hi : W i) (hk : k < rows.length) : atI ((shTo (cr i) (cr i).rows.length).map optD) ((k : Nat) : Int) = some (optD (shAtM rows (cr i) k)) := by
  apply atI_nat
  rw [hc.srows i hi]
  have l : k < (shTo (cr i) rows.length).length := by rw [shTo_len]; exact hk
  unfold shAtM
  rw [List.getElem?_map, List.getElem?_eq_getElem l, List.getD_eq_getElem?_getD, List.getElem?_eq_getElem l]; rfl
theorem ok_shares_of_some (B : Bt mg) (c : Ca K C) (c_shares : Prp P w K mg base C "shares" 5 (spD K C 1 S_sharesP)) (F : Fun K "shares_of_some" "shares_of_some" s_shares_of_some g fd) : FnOk P w K mg base CX0 7 g fd ["crew", "k", "some"] (spD K C 3 S_shares_of_some) := by
  refine fn_D F sc_shares_of_some rfl fun cdv A outer s H E G ds d hr hS => ?_
  obtain ⟨se, rows, kvs, cr, W, k, so, rfl, hc, hk, hs, hl, rfl⟩ := hS
  have nd := sc_shares_of_some.nd
  exact s_one (s_ret (x_tuple rfl B.tuple (o_new (x_lca (l := so) (h := fun (i : Nat) => D.int ((i : Nat) : Int)) (fun i => optD (shAtM rows (cr i) k)) (j := 3) rfl nd (lt_ rfl) (by omega) (i_s (i_tup (x_of (pv 2) rfl))) (blkOk_by (N := N_shares_of_some) (sc := defScope s_shares_of_some) (by decide +kernel)) (fun _ _ _ _ _ => pg_name (i := 3) nd rfl (.inl rfl))
      (fun i hi _ _ _ _ _ => (x_ixt (x_prop c.cl c_shares hr (x_dget (hu_of hr) (k := Sum.inl ((i : Nat) : Int)) (x_of (pv 0) rfl) (x_of (pv 3) rfl) (hc.get i (hs i hi))) ⟨_, rfl, hc.ok i (hs i hi), rfl⟩) (x_of (pv 1) rfl) (sh_at hc (hs i hi) hk)))))))
abbrev s_seen_by : Stmt := top 48
abbrev N_seen_by : List Str := ["setting", "crew", "k", "some", "found", "party", "other"]
theorem sc_seen_by : FnScope N_seen_by ["setting", "crew", "k", "some"] (defScope s_seen_by) := ⟨rfl, rfl, rfl, by decide +kernel, rfl, by decide +kernel, by decide +kernel⟩
def seenOne (se : Se) (rows : List Row) (cr : Nat → Pa) (k : Nat) (so : List Nat) (i : Nat) : D := if i ∈ so then .tup (inz (drawnAt se.t i rows (cr i).coins k)) else .tup (so.map fun o => .int (cfM (cr o) k i))
theorem cf_at {se : Se} {rows : List Row} {kvs : List (Key × D)} {cr : Nat → Pa} {W : Nat → Prop} (hc : Crew se rows kvs cr W) {o k j : Nat} {r : Row} (hk : rows[k]? = some r) (ho : W o) (h1 : 1 ≤ j) (h2 : j ≤ se.n) (hs : sendsM r j o = true) : (cameL (cr o) k).lookup j = some (cfM (cr o) k j) := by
  obtain ⟨x, hx⟩ := hc.full o ho k r hk j h1 h2 hs
  unfold cfM
  rw [hx]; rfl
theorem ok_seen_by (B : Bt mg) (c : Ca K C) (c_parties : Glo P w K mg base "parties" 1 ["setting"] (spD K C 1 S_parties)) (c_coins_at : Mtd P w K mg base C "coins_at" 1 ["self", "k"] (spD K C 2 S_coins_at)) (c_came_from : Mtd P w K mg base C "came_from" 1 ["self", "k", "party"] (spD K C 3 S_came_from))
    (F : Fun K "seen_by" "seen_by" s_seen_by g fd) : FnOk P w K mg base CX0 2 g fd ["setting", "crew", "k", "some"] (spD K C 4 S_seen_by) := by
  refine fn_D F sc_seen_by rfl fun cdv A outer s H E G ds d hr hS => ?_
  obtain ⟨se, rows, kvs, cr, W, k, so, r, rfl, hc, hk, ht, hs, hl, rfl⟩ := hS
  have nd := sc_seen_by.nd
  have n2 := hc.sok.n2
  have hkl : k < rows.length := (List.getElem?_eq_some_iff.mp hk).1
  refine s_seq (s_setN (i := 4) nd rfl (.inl rfl) (lt_ rfl) (x_lst a_nil) rfl) ?_
  refine s_cons (N1 := fun e => ∃ v v', e = [.dat se.d, .dat (.dic kvs), .dat (.int (k : Int)), .dat (.tup (natz so)), .own ((ptsN se.n).map (seenOne se rows cr k so)), v, v']) (s_forl (l := ptsN se.n) (h := fun (i : Nat) => D.int ((i : Nat) : Int)) (j := 5) (fun pre e => ∃ v v', e = [.dat se.d, .dat (.dic kvs), .dat (.int (k : Int)), .dat (.tup (natz so)), .own (pre.map (seenOne se rows cr k so)), v, v']) PassesOwn.never rfl (i_tup (x_eq (x_call c_parties hr (a_cons (x_of (pv 0) rfl) a_nil) ⟨rfl, se, rfl, hc.sok, rfl⟩) (congrArg D.tup (pts_nat _)))) (pg_name (i := 5) nd rfl (.inr rfl)) ?_ ?_ ?_ ?_) ?_
  · exact ⟨.no, .no, rfl⟩
  · rintro i _ ⟨v, v', rfl⟩; exact lt_ rfl
  · rintro pre i post _ hl' ⟨v, v', rfl⟩
    have hi : i ∈ ptsN se.n := by rw [hl']; simp
    obtain ⟨i1, i2⟩ := mem_ptsN.mp hi
    have hpl : pre.length < 100000 := by
      have := congrArg List.length hl'
      rw [ptsN_len, List.length_append] at this
      omega
    have e1 : ∀ x, (pre ++ [i]).map (seenOne se rows cr k so) = pre.map (seenOne se rows cr k so) ++ [x] ↔ seenOne se rows cr k so i = x := fun x => by rw [List.map_append]; simp
    refine s_one (s_if (t_is (t_in (x_of (pv 5) rfl) (o_tup (x_of (pv 3) rfl)) rfl (nat_flat _)) (nat_in i so)) (fun hc' => ?_) (fun hc' => ?_))
    · have hin : i ∈ so := of_decide_eq_true hc'
      have hw := hs i hin
      refine s_one (s_weak (s_app (d := .tup (inz (drawnAt se.t i rows (cr i).coins k))) (pv 4) rfl (lt_ rfl) (by rw [List.length_map]; exact hpl) (x_meth c.cl c_coins_at (hr.mono (by decide)) (x_dget (hu_of hr) (k := Sum.inl ((i : Nat) : Int)) (x_of (pv 1) rfl) (x_of (pv 5) rfl) (hc.get i hw)) (f_no (by decide +kernel) _) (a_cons (x_of (pv 2) rfl) a_nil) ⟨rfl, cr i, k, rfl, by rw [hc.srows i hw]; exact hkl, ?_⟩) rfl) ?_)
      · rw [hc.sse i hw, hc.srows i hw, hc.snum i hw]
        unfold drawnF
        rw [hk]
        show (if mine i r = true then _ else _) = _
        rw [if_pos (by rw [mine_or, show kmB r = true from decide_eq_true ht]; exact Bool.or_true _)]
      · rintro _ rfl
        refine ⟨.dat (.int ((i : Nat) : Int)), v', ?_⟩
        rw [(e1 (.tup (inz (drawnAt se.t i rows (cr i).coins k)))).mpr (if_pos hin)]; rfl
    · have hin : ¬ i ∈ so := of_decide_eq_false hc'
      refine s_one (s_weak (s_app (d := .tup (so.map fun o => .int (cfM (cr o) k i))) (pv 4) rfl (lt_ rfl) (by rw [List.length_map]; exact hpl) (x_tuple rfl B.tuple (o_new (x_lca (l := so) (h := fun (i : Nat) => D.int ((i : Nat) : Int)) (fun o => D.int (cfM (cr o) k i)) (j := 6) rfl nd (lt_ rfl) (by omega) (i_s (i_tup (x_of (pv 3) rfl))) (blkOk_by (N := N_seen_by) (sc := defScope s_seen_by) (by decide +kernel)) (fun _ _ _ _ _ => pg_name (i := 6) nd rfl (.inl rfl))
        (fun o ho _ _ _ _ _ => (x_meth c.cl c_came_from (hr.mono (by decide)) (x_dget (hu_of hr) (k := Sum.inl ((o : Nat) : Int)) (x_of (pv 1) rfl) (x_of (pv 6) rfl) (hc.get o (hs o ho))) (f_no (by decide +kernel) _) (a_cons (x_of (pv 2) rfl) (a_cons (x_of (pv 5) rfl) a_nil)) ⟨rfl, cr o, k, i, _, rfl, hc.ok o (hs o ho), by rw [hc.srows o (hs o ho)]; exact hkl, cf_at hc hk (hs o ho) i1 i2 ?_, rfl⟩))))) rfl) ?_)
      · have ne : i ≠ o := fun e => hin (e ▸ ho)
        unfold sendsM
        rw [if_neg ne]
        cases r <;> first | rfl | (simp [Row.tag] at ht; done)
      · rintro _ rfl
        refine ⟨.dat (.int ((i : Nat) : Int)), v', ?_⟩
        rw [(e1 (.tup (so.map fun o => .int (cfM (cr o) k i)))).mpr (if_neg hin)]; rfl
  · rintro _ h; exact h
  · rintro _ ⟨v, v', rfl⟩
    exact s_one (s_ret (x_tuple rfl B.tuple (o_own (pv 4) rfl)))
abbrev s_told_to : Stmt := top 50
abbrev N_told_to : List Str := ["setting", "row", "k", "party", "found", "other"]
theorem sc_told_to : FnScope N_told_to ["setting", "row", "k", "party"] (defScope s_told_to) := ⟨rfl, rfl, rfl, by decide +kernel, rfl, by decide +kernel, by decide +kernel⟩
def toldOne (rows : List Row) (cr : Nat → Pa) (k a j o : Nat) : D := if o = j then optD (shAtM rows (cr j) a) else .int (cfM (cr j) k o)
theorem ok_told_to (B : Bt mg) (c : Ca K C) (c_parties : Glo P w K mg base "parties" 1 ["setting"] (spD K C 1 S_parties)) (c_number : Prp P w K mg base C "number" 1 (spD K C 1 S_number)) (c_shares : Prp P w K mg base C "shares" 5 (spD K C 1 S_sharesP)) (c_came_from : Mtd P w K mg base C "came_from" 1 ["self", "k", "party"] (spD K C 3 S_came_from))
    (F : Fun K "told_to" "told_to" s_told_to g fd) : FnOk P w K mg base CX0 7 g fd ["setting", "row", "k", "party"] (spD K C 4 S_told_to) := by
  refine fn_D F sc_told_to rfl fun cdv A outer s H E G ds d hr hS => ?_
  obtain ⟨se, rows, kvs, cr, W, k, a, j, rfl, hc, hk, hw, rfl⟩ := hS
  have nd := sc_told_to.nd
  have n2 := hc.sok.n2
  have hkl : k < rows.length := (List.getElem?_eq_some_iff.mp hk).1
  have ok := hc.ok j hw
  have hal : a < rows.length := by
    have := (ok.rows.2 k (.out a j) (by rw [hc.srows j hw]; exact hk)).1 a List.mem_cons_self
    omega
  refine s_seq (s_setN (i := 4) nd rfl (.inl rfl) (lt_ rfl) (x_lst a_nil) rfl) ?_
  refine s_cons (N1 := fun e => ∃ v, e = [.dat se.d, .dat (Row.out a j).d, .dat (.int (k : Int)), .dat (cr j).d, .own ((ptsN se.n).map (toldOne rows cr k a j)), v]) (s_forl (l := ptsN se.n) (h := fun (i : Nat) => D.int ((i : Nat) : Int)) (j := 5) (fun pre e => ∃ v, e = [.dat se.d, .dat (Row.out a j).d, .dat (.int (k : Int)), .dat (cr j).d, .own (pre.map (toldOne rows cr k a j)), v]) PassesOwn.never rfl (i_tup (x_eq (x_call c_parties (hr.mono (by decide)) (a_cons (x_of (pv 0) rfl) a_nil) ⟨rfl, se, rfl, hc.sok, rfl⟩) (congrArg D.tup (pts_nat _)))) (pg_name (i := 5) nd rfl (.inl rfl)) ?_ ?_ ?_ ?_) ?_
  · exact ⟨.no, rfl⟩
  · rintro i _ ⟨v, rfl⟩; exact lt_ rfl
  · rintro pre o post _ hl' ⟨v, rfl⟩
    have hi : o ∈ ptsN se.n := by rw [hl']; simp
    obtain ⟨i1, i2⟩ := mem_ptsN.mp hi
    have hpl : pre.length < 100000 := by
      have := congrArg List.length hl'
      rw [ptsN_len, List.length_append] at this
      omega
    refine s_one (s_weak (s_app (d := toldOne rows cr k a j o) (pv 4) rfl (lt_ rfl) (by rw [List.length_map]; exact hpl) (x_if (k := decide (o = j)) (t_is (t_cmp op_eq rd_eqI (x_of (pv 5) rfl) (x_prop c.cl c_number (hr.mono (by decide)) (x_of (pv 3) rfl) ⟨_, rfl, rfl⟩) (nomark _)) (by rw [hc.snum j hw]; exact dec_nat o j)) (fun h => x_eq (x_ixt (x_prop c.cl c_shares hr (x_of (pv 3) rfl) ⟨_, rfl, ok, rfl⟩) (x_ixt (x_of (pv 1) rfl) x_int rfl) (sh_at hc hw hal)) (by unfold toldOne; rw [if_pos (of_decide_eq_true h)])) (fun h => x_eq (x_meth c.cl c_came_from (hr.mono (by decide)) (x_of (pv 3) rfl) (f_no (by decide +kernel) _) (a_cons (x_of (pv 2) rfl) (a_cons (x_of (pv 5) rfl) a_nil)) ⟨rfl, cr j, k, o, _, rfl, ok, by rw [hc.srows j hw]; exact hkl, cf_at hc hk hw i1 i2 (by unfold sendsM; rw [if_neg (of_decide_eq_false h)]; exact decide_eq_true rfl), rfl⟩) (by unfold toldOne; rw [if_neg (of_decide_eq_false h)]))) rfl) ?_)
    rintro _ rfl
    exact ⟨.dat (.int ((o : Nat) : Int)), by rw [List.map_append]; rfl⟩
  · rintro _ h; exact h
  · rintro _ ⟨v, rfl⟩
    exact s_one (s_ret (x_tuple rfl B.tuple (o_own (pv 4) rfl)))
end
end Un
set_option maxHeartbeats 4000000
namespace Un
open PySem L2 TL
structure Pp where
  num : Nat
  inputs : List Int
  coins : List Int
  ls : List Let
def Pp.text (q : Pp) : Str := textS (paperL q.num q.inputs q.coins q.ls)
def Pp.new (se : Se) (rows : List Row) (q : Pp) : Pa := newPa se rows q.num q.inputs q.coins
def Pp.pa (se : Se) (rows : List Row) (q : Pp) : Pa := takes (q.new se rows) q.ls
structure PpOk (se : Se) (rows : List Row) (q : Pp) : Prop where
  ok : (q.new se rows).Ok
  cr : ∀ z ∈ q.coins, 0 ≤ z ∧ z < se.p
  lets : LetsOk (q.new se rows) q.ls
  full : ∀ k r, rows[k]? = some r → ∀ j, 1 ≤ j → j ≤ se.n → sendsM r j q.num = true → ∃ l ∈ q.ls, l.1 = k ∧ l.2.1 = j
def crewM (se : Se) (rows : List Row) (qs : List Pp) (i : Nat) : Pa := match qs.find? fun q => decide (q.num = i) with
  | some q => q.pa se rows
  | none => newPa se rows i [] []
def crewD (se : Se) (rows : List Row) (qs : List Pp) : List (Key × D) := qs.map fun q => ((Sum.inl ((q.num : Nat) : Int) : Key), (q.pa se rows).d)
theorem pp_same (se : Se) (rows : List Row) (q : Pp) : (q.pa se rows).se = se ∧ (q.pa se rows).rows = rows ∧ (q.pa se rows).num = q.num ∧ (q.pa se rows).inputs = q.inputs ∧ (q.pa se rows).coins = q.coins := takes_same (q.new se rows) q.ls
theorem crew_find {se : Se} {rows : List Row} : ∀ {qs : List Pp} {i : Nat}, (∃ q ∈ qs, q.num = i) → ∃ q ∈ qs, q.num = i ∧ (qs.find? fun q => decide (q.num = i)) = some q ∧ valD (crewD se rows qs) (Sum.inl ((i : Nat) : Int)) = some (q.pa se rows).d
  | [], _, ⟨q, h, _⟩ => by cases h
  | x :: qs, i, h => by
    by_cases e : x.num = i
    · exact ⟨x, List.mem_cons_self, e, by rw [List.find?_cons]; simp [e], by
        show valD (((Sum.inl ((x.num : Nat) : Int) : Key), (x.pa se rows).d) :: crewD se rows qs) _ = _
        exact valD_pos (by show (Sum.inl ((x.num : Nat) : Int) : Key) = Sum.inl ((i : Nat) : Int); rw [e])⟩
    · obtain ⟨q, hq, e2⟩ := h
      rcases List.mem_cons.mp hq with rfl | hq
      · exact absurd e2 e
      · obtain ⟨q', h1, h2, h3, h4⟩ := crew_find (se := se) (rows := rows) ⟨q, hq, e2⟩
        exact ⟨q', List.mem_cons_of_mem _ h1, h2, by rw [List.find?_cons]; simp [e]; exact h3, by
          show valD (((Sum.inl ((x.num : Nat) : Int) : Key), (x.pa se rows).d) :: crewD se rows qs) _ = _
          rw [valD_neg (key_ne e)]; exact h4⟩
theorem crew_ok {se : Se} {rows : List Row} {qs : List Pp} (sok : se.Ok) (hz : rows.length ≤ 60) (h : ∀ q ∈ qs, PpOk se rows q) : Crew se rows (crewD se rows qs) (crewM se rows qs) (fun i => ∃ q ∈ qs, q.num = i) := by
  have key : ∀ i, (∃ q ∈ qs, q.num = i) → ∃ q ∈ qs, q.num = i ∧ crewM se rows qs i = q.pa se rows ∧ valD (crewD se rows qs) (Sum.inl ((i : Nat) : Int)) = some (q.pa se rows).d := fun i hi => by
    obtain ⟨q, h1, h2, h3, h4⟩ := crew_find (se := se) (rows := rows) hi
    exact ⟨q, h1, h2, by unfold crewM; rw [h3], h4⟩
  refine ⟨sok, hz, fun i hi => ?_, fun i hi => ?_, fun i hi => ?_, fun i hi => ?_, fun i hi => ?_, fun i hi k r hk j j1 j2 hs => ?_⟩
  all_goals obtain ⟨q, h1, h2, h3, h4⟩ := key i hi
  all_goals have hq := h q h1
  all_goals have sm := pp_same se rows q
  · rw [h3]; exact h4
  · rw [h3]; exact takes_ok hq.ok q.ls [] (by rw [List.append_nil]; exact hq.lets)
  · rw [h3]; exact sm.1
  · rw [h3]; exact sm.2.1
  · rw [h3, sm.2.2.1]; exact h2
  · rw [h3]
    obtain ⟨l, hl, e1, e2⟩ := hq.full k r hk j j1 j2 (by rw [h2]; exact hs)
    have hc := (takes_came (q.new se rows) q.ls fun x hx => by unfold Pp.new; rw [new_len]; exact (hq.lets.ok x hx).k).2 k
    unfold Pp.pa
    rw [hc]
    refine lookup_mem ?_
    rw [List.map_append, List.map_map]
    exact List.mem_append_right _ (List.mem_map.mpr ⟨l, List.mem_filter.mpr ⟨hl, decide_eq_true e1⟩, e2⟩)
def S_seen (ds : List D) (d : D) : Prop := ∃ (se : Se) (rows : List Row) (qs : List Pp) (ws : List (List Nat)), ds = [se.d, progD rows, .tup (qs.map fun q => .str q.text), watD ws] ∧ se.Ok ∧ rows.length ≤ 60 ∧ (∀ q ∈ qs, PpOk se rows q) ∧ (qs.map Pp.num).Nodup ∧ qs.length ≤ 100 ∧
  WsOk se rows ws (fun i => ∃ q ∈ qs, q.num = i) ∧ d = .tup ((List.range rows.length).map (itemM se rows ws (crewM se rows qs)))
section
variable {P : Program} {w : World} {K : PySem.W.Frag} {mg : Str → Option Value} {base : Heap} {C : Addr} {g : Addr} {fd : FuncData}
abbrev s_item_of : Stmt := top 49
abbrev N_item_of : List Str := ["setting", "program", "k", "crew", "watchers", "row", "some", "both"]
theorem sc_item_of : FnScope N_item_of ["setting", "program", "k", "crew", "watchers"] (defScope s_item_of) := ⟨rfl, rfl, rfl, by decide +kernel, rfl, by decide +kernel, by decide +kernel⟩
theorem item_def (se : Se) {rows : List Row} (ws : List (List Nat)) (cr : Nat → Pa) {k : Nat} {r : Row} (h : rows[k]? = some r) : itemM se rows ws cr k = itemR se rows ws cr k r := by
  unfold itemM
  rw [h]; rfl
theorem ok_item_of (B : Bt mg) (c : Ca K C) (c_epoch_of : Glo P w K mg base "epoch_of" 1 ["program", "k"] (spD K C 2 S_epoch_of)) (c_input_at : Mtd P w K mg base C "input_at" 1 ["self", "k"] (spD K C 2 S_input_at)) (c_coins_at : Mtd P w K mg base C "coins_at" 1 ["self", "k"] (spD K C 2 S_coins_at))
    (c_shares_of_some : Glo P w K mg base "shares_of_some" 7 ["crew", "k", "some"] (spD K C 3 S_shares_of_some)) (c_seen_by : Glo P w K mg base "seen_by" 2 ["setting", "crew", "k", "some"] (spD K C 4 S_seen_by)) (c_on_both_sides : Glo P w K mg base "on_both_sides" 2 ["program", "watchers", "k"] (spD K C 3 S_on_both))
    (c_told_to : Glo P w K mg base "told_to" 7 ["setting", "row", "k", "party"] (spD K C 4 S_told_to)) (F : Fun K "item_of" "item_of" s_item_of g fd) : FnOk P w K mg base CX0 8 g fd ["setting", "program", "k", "crew", "watchers"] (spD K C 5 S_item_of) := by
  refine fn_D F sc_item_of rfl fun cdv A outer s H E G ds d hr hS => ?_
  obtain ⟨se, rows, kvs, cr, W, ws, k, rfl, hc, wok, hkl, hd⟩ := hS
  have nd := sc_item_of.nd
  have rok := hc.rok
  have he := wok.ep k hkl
  obtain ⟨r, hk⟩ : ∃ r, rows[k]? = some r := ⟨rows[k], List.getElem?_eq_getElem hkl⟩
  have wmem : ∀ i ∈ wkM rows ws k, W i := fun i hi => by
    unfold wkM at hi
    rw [List.getD_eq_getElem?_getD, List.getElem?_eq_getElem he] at hi
    exact wok.mem _ (List.getElem_mem he) i hi
  have wl : (wkM rows ws k).length ≤ 100 := by
    unfold wkM
    rw [List.getD_eq_getElem?_getD, List.getElem?_eq_getElem he]
    exact wok.len _ (List.getElem_mem he)
  have bmem : ∀ i ∈ bothM rows ws k, W i := fun i hi => wmem i (List.mem_filter.mp hi).1
  have bl : (bothM rows ws k).length ≤ 100 := Nat.le_trans (List.length_filter_le _ _) wl
  rw [item_def se ws cr hk] at hd
  subst hd
  refine s_seq (s_set (i := 5) (d := r.d) nd rfl (.inl rfl) (lt_ rfl) (x_ixt (x_ixt (x_of (pv 1) rfl) x_int rfl) (x_of (pv 2) rfl) (rows_at hk)) rfl) ?_
  refine s_seq (s_set (i := 6) (d := .tup (natz (wkM rows ws k))) nd rfl (.inl rfl) (lt_ rfl) (x_ixt (x_of (pv 4) rfl) (x_call c_epoch_of (hr.mono (by decide)) (a_cons (x_of (pv 1) rfl) (a_cons (x_of (pv 2) rfl) a_nil)) ⟨rfl, rows, k, rfl, by omega, rfl⟩) (ws_at he)) rfl) ?_
  have inp : ∀ j, r = .inp j → W j → givenF (cr j).num (cr j).rows (cr j).inputs k = some (.int ((cr j).inputs.getD (usedAt j rows k) 0)) ∧ drawnF (cr j).se.t (cr j).num (cr j).rows (cr j).coins k = some (.tup (inz (drawnAt se.t j rows (cr j).coins k))) := fun j e hw => by
    subst e
    rw [hc.srows j hw, hc.snum j hw, hc.sse j hw]
    unfold givenF drawnF
    rw [hk]
    constructor
    · show (if decide (j = j) = true then _ else _) = _
      rw [if_pos (decide_eq_true rfl)]
    · show (if decide (j = j) = true then _ else _) = _
      rw [if_pos (decide_eq_true rfl)]
  refine ss_ifl (t_is (t_cmp op_eq rd_eqS (x_ixt (x_of (pv 5) rfl) x_int (at0 _ _)) x_str (nomark _)) (k_is0 _)) (fun h => ?_) (fun h0 => ?_)
  · cases r with
    | inp j =>
      refine ss_ifl (t_is (t_in (x_ixt (x_of (pv 5) rfl) x_int rfl) (o_tup (x_of (pv 6) rfl)) rfl (nat_flat _)) (nat_in j _)) (fun h => ?_) (fun h => ?_)
      · have hj : j ∈ wkM rows ws k := of_decide_eq_true h
        have hw := wmem j hj
        obtain ⟨q1, q2⟩ := inp j rfl hw
        refine s_one (s_ret (x_eq (x_tup (a_cons x_str (a_cons (x_meth c.cl c_input_at (hr.mono (by decide)) (x_dget (hu_of hr) (k := Sum.inl ((j : Nat) : Int)) (x_of (pv 3) rfl) (x_ixt (x_of (pv 5) rfl) x_int rfl) (hc.get j hw)) (f_no (by decide +kernel) _) (a_cons (x_of (pv 2) rfl) a_nil) ⟨rfl, cr j, k, rfl, by rw [hc.srows j hw]; exact hkl, q1⟩) (a_cons (x_meth c.cl c_coins_at (hr.mono (by decide)) (x_dget (hu_of hr) (k := Sum.inl ((j : Nat) : Int)) (x_of (pv 3) rfl) (x_ixt (x_of (pv 5) rfl) x_int rfl) (hc.get j hw)) (f_no (by decide +kernel) _) (a_cons (x_of (pv 2) rfl) a_nil) ⟨rfl, cr j, k, rfl, by rw [hc.srows j hw]; exact hkl, q2⟩) a_nil)))) ?_))
        show _ = (if j ∈ wkM rows ws k then _ else _)
        rw [if_pos hj]
      · have hj : ¬ j ∈ wkM rows ws k := of_decide_eq_false h
        refine s_one (s_ret (x_eq (x_tup (a_cons x_str (a_cons (x_call c_shares_of_some (hr.mono (by decide)) (a_cons (x_of (pv 3) rfl) (a_cons (x_of (pv 2) rfl) (a_cons (x_of (pv 6) rfl) a_nil))) ⟨rfl, se, rows, kvs, cr, W, k, _, rfl, hc, hkl, wmem, wl, rfl⟩) a_nil))) ?_))
        show _ = (if j ∈ wkM rows ws k then _ else _)
        rw [if_neg hj]
    | _ => exact absurd h (by simp [Row.tag])
  refine ss_ifl (t_is (t_cmp op_eq rd_eqS (x_ixt (x_of (pv 5) rfl) x_int (at0 _ _)) x_str (nomark _)) (k_is4 _)) (fun h => ?_) (fun h4 => ?_)
  · cases r with
    | prod u v => exact s_one (s_ret (x_call c_seen_by (hr.mono (by decide)) (a_cons (x_of (pv 0) rfl) (a_cons (x_of (pv 3) rfl) (a_cons (x_of (pv 2) rfl) (a_cons (x_of (pv 6) rfl) a_nil)))) ⟨rfl, se, rows, kvs, cr, W, k, _, _, rfl, hc, hk, .inl rfl, wmem, wl, rfl⟩))
    | _ => exact absurd h (by simp [Row.tag])
  refine ss_ifl (t_is (t_cmp op_eq rd_eqS (x_ixt (x_of (pv 5) rfl) x_int (at0 _ _)) x_str (nomark _)) (k_is8 _)) (fun h => ?_) (fun h8 => ?_)
  · cases r with
    | kept u =>
      refine s_seq (s_set (i := 7) (d := .tup (natz (bothM rows ws k))) nd rfl (.inl rfl) (lt_ rfl) (x_call c_on_both_sides (hr.mono (by decide)) (a_cons (x_of (pv 1) rfl) (a_cons (x_of (pv 4) rfl) (a_cons (x_of (pv 2) rfl) a_nil))) ⟨rfl, se, rows, ws, W, k, rfl, wok, rok, hkl, rfl⟩) rfl) ?_
      exact s_one (s_ret (x_tup (a_cons (x_call c_seen_by (hr.mono (by decide)) (a_cons (x_of (pv 0) rfl) (a_cons (x_of (pv 3) rfl) (a_cons (x_of (pv 2) rfl) (a_cons (x_of (pv 7) rfl) a_nil)))) ⟨rfl, se, rows, kvs, cr, W, k, _, _, rfl, hc, hk, .inr rfl, bmem, bl, rfl⟩) (a_cons (x_call c_shares_of_some (hr.mono (by decide)) (a_cons (x_of (pv 3) rfl) (a_cons (x_of (pv 2) rfl) (a_cons (x_of (pv 6) rfl) a_nil))) ⟨rfl, se, rows, kvs, cr, W, k, _, rfl, hc, hkl, wmem, wl, rfl⟩) a_nil))))
    | _ => exact absurd h (by simp [Row.tag])
  by_cases h6 : r.tag = 6
  · cases r with
    | out a j =>
      refine ss_ifl (k := decide (j ∈ wkM rows ws k)) (t_is (PW.pt (w_and (t_is (t_cmp op_eq rd_eqS (x_ixt (x_of (pv 5) rfl) x_int (at0 _ _)) x_str (nomark _)) (k_is6 _)) fun _ => (w_and1 (t_is (t_in (x_ixt (x_of (pv 5) rfl) x_int rfl) (o_tup (x_of (pv 6) rfl)) rfl (nat_flat _)) (nat_in j _))))) (Bool.true_and _)) (fun h => ?_) (fun h => ?_)
      · have hj : j ∈ wkM rows ws k := of_decide_eq_true h
        have hw := wmem j hj
        refine s_one (s_ret (x_eq (x_call c_told_to (hr.mono (by decide)) (a_cons (x_of (pv 0) rfl) (a_cons (x_of (pv 5) rfl) (a_cons (x_of (pv 2) rfl) (a_cons (x_dget (hu_of hr) (k := Sum.inl ((j : Nat) : Int)) (x_of (pv 3) rfl) (x_ixt (x_of (pv 5) rfl) x_int rfl) (hc.get j hw)) a_nil)))) ⟨rfl, se, rows, kvs, cr, W, k, a, j, rfl, hc, hk, hw, rfl⟩) ?_))
        show _ = (if j ∈ wkM rows ws k then _ else _)
        rw [if_pos hj]
      · have hj : ¬ j ∈ wkM rows ws k := of_decide_eq_false h
        refine s_one (s_ret (x_eq (x_tup a_nil) ?_))
        show _ = (if j ∈ wkM rows ws k then _ else _)
        rw [if_neg hj]
    | _ => exact absurd h6 (by simp [Row.tag])
  · refine ss_ifl (k := false) (t_is (PW.pt (w_and (k := false) (l := false) (t_is (t_is (t_cmp op_eq rd_eqS (x_ixt (x_of (pv 5) rfl) x_int (at0 _ _)) x_str (nomark _)) (k_is6 _)) (decide_eq_false h6)) fun h => by cases h)) rfl) (fun h => absurd h (by decide)) (fun _ => ?_)
    refine s_one (s_ret (x_eq (x_tup a_nil) ?_))
    cases r <;> first | rfl | (simp [Row.tag] at h0; done) | (simp [Row.tag] at h4; done) | (simp [Row.tag] at h8; done) | (simp [Row.tag] at h6; done)
abbrev s_seen : Stmt := top 51
abbrev N_seen : List Str := ["setting", "program", "papers", "watchers", "crew", "paper", "party", "k"]
theorem sc_seen : FnScope N_seen ["setting", "program", "papers", "watchers"] (defScope s_seen) := ⟨rfl, rfl, rfl, by decide +kernel, rfl, by decide +kernel, by decide +kernel⟩
theorem ok_seen (B : Bt mg) (c : Ca K C) (c_read_paper : Glo P w K mg base "read_paper" 10 ["setting", "program", "text"] (spD K C 3 S_read_paper)) (c_number : Prp P w K mg base C "number" 1 (spD K C 1 S_number)) (c_item_of : Glo P w K mg base "item_of" 8 ["setting", "program", "k", "crew", "watchers"] (spD K C 5 S_item_of))
    (F : Fun K "seen" "seen" s_seen g fd) : FnOk P w K mg base CX0 11 g fd ["setting", "program", "papers", "watchers"] (spD K C 4 S_seen) := by
  refine fn_D F sc_seen rfl fun cdv A outer s H E G ds d hr hS => ?_
  obtain ⟨se, rows, qs, ws, rfl, sok, hz, hq, hnd, hlen, wok, rfl⟩ := hS
  have nd := sc_seen.nd
  have hc := crew_ok sok hz hq
  refine s_seq (s_setD (i := 4) nd rfl (.inr rfl) (lt_ rfl) rfl) ?_
  refine s_cons (N1 := fun e => ∃ v v', e = [.dat se.d, .dat (progD rows), .dat (.tup (qs.map fun q => .str q.text)), .dat (watD ws), .ownd (crewD se rows qs), v, v', .no]) (s_forl (l := qs) (h := fun q => D.str q.text) (j := 5) (fun pre e => ∃ v v', e = [.dat se.d, .dat (progD rows), .dat (.tup (qs.map fun q => .str q.text)), .dat (watD ws), .ownd (crewD se rows pre), v, v', .no]) PassesOwn.never rfl (i_tup (x_of (pv 2) rfl)) (pg_name (i := 5) nd rfl (.inl rfl)) ?_ ?_ ?_ ?_) ?_
  · exact ⟨.no, .no, rfl⟩
  · rintro i _ ⟨v, v', rfl⟩; exact lt_ rfl
  · rintro pre q post _ hl' ⟨v, v', rfl⟩
    have hm : q ∈ qs := by rw [hl']; simp
    have hok := hq q hm
    have sm := pp_same se rows q
    have hpl : (crewD se rows pre).length < 100000 := by
      have := congrArg List.length hl'
      rw [List.length_append] at this
      unfold crewD; rw [List.length_map]; omega
    refine s_seq (s_set (i := 6) (d := (q.pa se rows).d) nd rfl (.inl rfl) (lt_ rfl) (x_call c_read_paper (hr.mono (by decide)) (a_cons (x_of (pv 0) rfl) (a_cons (x_of (pv 1) rfl) (a_cons (x_of (pv 5) rfl) a_nil))) ⟨rfl, se, rows, q.num, q.inputs, q.coins, q.ls, rfl, hok.ok, hok.cr, hok.lets, rfl⟩) rfl) ?_
    refine s_one (s_weak (s_dput (j := 4) (k := Sum.inl ((q.num : Nat) : Int)) (hu_of hr) (pv 4) rfl (lt_ rfl) hpl (x_prop c.cl c_number (hr.mono (by decide)) (x_of (pv 6) rfl) ⟨_, rfl, by rw [sm.2.2.1]; rfl⟩) (x_of (pv 6) rfl) rfl) ?_)
    rintro _ rfl
    refine ⟨.dat (.str q.text), .dat (q.pa se rows).d, ?_⟩
    rw [putD_new]
    · unfold crewD; rw [List.map_append]; rfl
    · intro kv hkv
      obtain ⟨x, hx, rfl⟩ := List.mem_map.mp hkv
      refine key_ne fun e => ?_
      rw [hl', List.map_append, List.map_cons] at hnd
      exact (List.nodup_append.mp hnd).2.2 x.num (List.mem_map.mpr ⟨x, hx, rfl⟩) q.num List.mem_cons_self e
  · rintro _ h; exact h
  · rintro _ ⟨v, v', rfl⟩
    refine ss_frzd (i := 4) rfl (lt_ rfl) rfl ?_
    refine s_one (s_ret (x_eq (x_tuple rfl B.tuple (o_new (x_lca (l := List.range rows.length) (h := fun (i : Nat) => D.int (0 + ((i : Nat) : Int))) (itemM se rows ws (crewM se rows qs)) (j := 7) rfl nd (lt_ rfl) (by rw [List.length_range]; omega) (i_s (i_rng1 (n := rows.length) (by omega) rfl B.range (x_eq (x_len rfl B.len (o_tup (x_ixt (x_of (pv 1) rfl) x_int rfl))) (by rw [List.length_map])))) (blkOk_by (N := N_seen) (sc := defScope s_seen) (by decide +kernel)) (fun _ _ _ _ _ => pg_name (i := 7) nd rfl (.inl rfl))
      (fun i hi _ _ _ _ _ => (x_call c_item_of (hr.mono (by decide)) (a_cons (x_of (pv 0) rfl) (a_cons (x_of (pv 1) rfl) (a_cons (x_eq (x_of (pv 7) rfl) (d' := .int ((i : Nat) : Int)) (by rw [Int.zero_add])) (a_cons (x_of (pv 4) rfl) (a_cons (x_of (pv 3) rfl) a_nil))))) ⟨rfl, se, rows, _, _, _, ws, i, rfl, hc, wok, List.mem_range.mp hi, rfl⟩))))) rfl))
end
end Un
set_option maxHeartbeats 4000000
/-! plain facts: values of polynomials by remainders -/
namespace Un
def ev : List Int → Int → Int
  | [], _ => 0
  | c :: r, x => c + x * ev r x
theorem valueAt_ev (p : Int) (x : Int) : ∀ poly : List Int, valueAt p poly x = ev poly x % p
  | [] => by show (0 : Int) = 0 % p; rw [Int.zero_emod]
  | c :: r => by
    show (valueAt p r x * x + c) % p = (c + x * ev r x) % p
    rw [valueAt_ev p x r, Int.add_emod, mul_emod_l, ← Int.add_emod, Int.add_comm, Int.mul_comm]
theorem ev_snoc (x c : Int) : ∀ r : List Int, ev (r ++ [c]) x = ev r x + c * x ^ r.length
  | [] => by simp [ev]
  | a :: r => by
    show a + x * ev (r ++ [c]) x = (a + x * ev r x) + c * x ^ (r.length + 1)
    rw [ev_snoc x c r, Int.pow_succ, Int.mul_add, Int.add_assoc]
    congr 2
    rw [← Int.mul_assoc, Int.mul_comm x c, Int.mul_assoc, Int.mul_comm x]
theorem ev_append_zero (x : Int) (r : List Int) : ev (r ++ [0]) x = ev r x := by rw [ev_snoc, Int.zero_mul, Int.add_zero]
theorem mod_add {a b c d p : Int} (h : a % p = b % p) (k : c % p = d % p) : (a + c) % p = (b + d) % p := by rw [Int.add_emod, h, k, ← Int.add_emod]
theorem mod_mul {a b c d p : Int} (h : a % p = b % p) (k : c % p = d % p) : (a * c) % p = (b * d) % p := by rw [Int.mul_emod, h, k, ← Int.mul_emod]
theorem mod_self (a p : Int) : (a % p) % p = a % p := Int.emod_emod a p
theorem ev_scale (p c x : Int) : ∀ r : List Int, ev (scaleM p c r) x % p = (c * ev r x) % p
  | [] => by show (0 : Int) % p = (c * 0) % p; rw [Int.mul_zero]
  | a :: r => by
    show ((c * a) % p + x * ev (scaleM p c r) x) % p = (c * (a + x * ev r x)) % p
    have e : c * (a + x * ev r x) = c * a + x * (c * ev r x) := by
      rw [Int.mul_add, ← Int.mul_assoc, ← Int.mul_assoc, Int.mul_comm c x]
    rw [e]
    exact mod_add (mod_self _ _) (mod_mul rfl (ev_scale p c x r))
theorem ev_add (p x : Int) : ∀ (a b : List Int), a.length = b.length → ev (addM p a b) x % p = (ev a x + ev b x) % p
  | [], [], _ => by show (0 : Int) % p = (0 + 0) % p; rfl
  | [], _ :: _, h => by simp at h
  | _ :: _, [], h => by simp at h
  | a :: r, b :: s, h => by
    show ((a + b) % p + x * ev (addM p r s) x) % p = ((a + x * ev r x) + (b + x * ev s x)) % p
    have e : (a + x * ev r x) + (b + x * ev s x) = (a + b) + x * (ev r x + ev s x) := by rw [Int.mul_add]; omega
    rw [e]
    exact mod_add (mod_self _ _) (mod_mul rfl (ev_add p x r s (by simpa using h)))
theorem ev_root (p pt x : Int) (r : List Int) : ev (withRoot p r pt) x % p = (ev r x * (x - pt)) % p := by
  unfold withRoot
  rw [ev_add p x _ _ (by simp [scaleM])]
  rw [ev_append_zero]
  show ((0 + x * ev r x) + ev (scaleM p (0 - pt) r) x) % p = _
  have e : ev r x * (x - pt) = (0 + x * ev r x) + (0 - pt) * ev r x := by
    rw [Int.mul_sub, Int.sub_mul, Int.zero_mul, Int.zero_add, Int.mul_comm x, Int.mul_comm pt]; omega
  rw [e]
  exact mod_add rfl (ev_scale p (0 - pt) x r)
def prodZ : List Int → Int
  | [] => 1
  | a :: r => a * prodZ r
theorem ev_roots (p x : Int) (os : List Int) : ∀ r : List Int, ev (os.foldl (withRoot p) r) x % p = (ev r x * prodZ (os.map fun o => x - o)) % p := by
  induction os with
  | nil => intro r; show _ = (ev r x * 1) % p; rw [Int.mul_one]; rfl
  | cons o os ih =>
    intro r
    show ev (os.foldl (withRoot p) (withRoot p r o)) x % p = (ev r x * ((x - o) * prodZ (os.map fun o => x - o))) % p
    rw [ih, ← Int.mul_assoc]
    exact mod_mul (ev_root p o x r) rfl
theorem ev_rootsAt (p x : Int) (os : List Int) : ev (rootsAt p os) x % p = prodZ (os.map fun o => x - o) % p := by
  unfold rootsAt
  rw [ev_roots]
  show ((1 % p + x * 0) * _) % p = _
  rw [Int.mul_zero, Int.add_zero, mul_emod_l, Int.one_mul]
/-- a law's weight -/
def lw (p : Int) (ns : List Int) (x one : Int) : Int :=
  (prodZ ((ns.filter fun o => !decide (o = one)).map fun o => x - o) % p * ((prodZ ((ns.filter fun o => !decide (o = one)).map fun o => one - o) % p) ^ (p - 2).toNat % p)) % p
theorem others_filter {ns : List Int} (nd : ns.Nodup) {i : Nat} (h : i < ns.length) : ns.take i ++ ns.drop (i + 1) = ns.filter fun o => !decide (o = ns.getD i 0) := by
  have e : ns.getD i 0 = ns[i] := by rw [List.getD_eq_getElem?_getD, List.getElem?_eq_getElem h]; rfl
  have sp := (split_at (List.getElem?_eq_getElem h)).1
  rw [e]
  generalize ha : ns[i] = a at sp
  have nd2 := nd
  rw [sp] at nd2
  have n1 := (List.nodup_append.mp nd2)
  conv => rhs; rw [sp]
  rw [List.filter_append, List.filter_cons, if_neg (by simp)]
  congr 1
  · exact (List.filter_eq_self.mpr fun x hx => by
      have := n1.2.2 x hx a List.mem_cons_self
      simp [this]).symm
  · exact (List.filter_eq_self.mpr fun x hx => by
      have := (List.nodup_cons.mp n1.2.1).1
      have hne : x ≠ a := fun e => this (e ▸ hx)
      simp [hne]).symm
theorem weights_lw (p : Int) (ns : List Int) (x : Int) (nd : ns.Nodup) : weightsM p ns x = ns.map (lw p ns x) := by
  unfold weightsM basesM
  rw [List.map_map]
  apply List.ext_getElem
  · simp
  · intro i h1 h2
    have l : i < ns.length := by simpa using h1
    have eg : ns.getD i 0 = ns[i] := by rw [List.getD_eq_getElem?_getD, List.getElem?_eq_getElem l]; rfl
    rw [List.getElem_map, List.getElem_map, List.getElem_range]
    show valueAt p (baseAt p ns i) x = lw p ns x ns[i]
    unfold baseAt lw
    rw [others_filter nd l, eg, valueAt_ev, ev_scale, valueAt_ev, ev_rootsAt, Int.mul_comm]
    exact mod_mul ((ev_rootsAt p x _).trans (mod_self _ _).symm) rfl
/-- sums of rows by weights -/
def polySum (p : Int) (rows : List (List Int)) (ws : List Int) : List Int := (List.range (rows.getD 0 []).length).map fun j => ((List.range rows.length).map fun k => ws.getD k 0 * (rows.getD k []).getD j 0).sum % p
def sumZ {α : Type} (f : α → Int) (l : List α) : Int := (l.map f).sum
theorem sumZ_cons {α : Type} (f : α → Int) (a : α) (l : List α) : sumZ f (a :: l) = f a + sumZ f l := by unfold sumZ; rw [List.map_cons, List.sum_cons]
theorem ev_fn (p x : Int) (f g : Nat → Int) : ∀ m : Nat, (∀ j, j < m → f j % p = g j % p) → ev ((List.range m).map f) x % p = ev ((List.range m).map g) x % p := by
  intro m h
  induction m with
  | zero => rfl
  | succ m ih =>
    rw [List.range_succ, List.map_append, List.map_append]
    show ev (_ ++ [f m]) x % p = ev (_ ++ [g m]) x % p
    rw [ev_snoc, ev_snoc, List.length_map, List.length_map]
    exact mod_add (ih fun j hj => h j (by omega)) (mod_mul (h m (by omega)) rfl)
theorem ev_lin2 (x c : Int) (f g : Nat → Int) : ∀ m : Nat, ev ((List.range m).map fun j => c * f j + g j) x = c * ev ((List.range m).map f) x + ev ((List.range m).map g) x := by
  intro m
  induction m with
  | zero => show (0 : Int) = c * 0 + 0; rw [Int.mul_zero]; rfl
  | succ m ih =>
    rw [List.range_succ, List.map_append, List.map_append, List.map_append]
    show ev (_ ++ [c * f m + g m]) x = c * ev (_ ++ [f m]) x + ev (_ ++ [g m]) x
    rw [ev_snoc, ev_snoc, ev_snoc, ih, List.length_map, List.length_map, List.length_map, Int.mul_add, Int.add_mul, Int.mul_assoc]
    omega
theorem ev_zero (x : Int) : ∀ m : Nat, ev ((List.range m).map fun _ => (0 : Int)) x = 0 := by
  intro m
  induction m with
  | zero => rfl
  | succ m ih =>
    rw [List.range_succ, List.map_append]
    show ev (_ ++ [0]) x = 0
    rw [ev_append_zero, ih]
theorem ev_lin (x : Int) {α : Type} (w : α → Int) (f : α → Nat → Int) (m : Nat) : ∀ l : List α, ev ((List.range m).map fun j => sumZ (fun a => w a * f a j) l) x = sumZ (fun a => w a * ev ((List.range m).map (f a)) x) l
  | [] => ev_zero x m
  | a :: l => by
    have e : ((List.range m).map fun j => sumZ (fun a => w a * f a j) (a :: l)) = (List.range m).map fun j => w a * f a j + sumZ (fun a => w a * f a j) l := List.map_congr_left fun j _ => sumZ_cons _ _ _
    rw [e, ev_lin2 x (w a) (f a) (fun j => sumZ (fun a => w a * f a j) l) m, ev_lin x w f m l, sumZ_cons]
theorem sumZ_mod {α : Type} (p : Int) (f g : α → Int) : ∀ l : List α, (∀ a ∈ l, f a % p = g a % p) → sumZ f l % p = sumZ g l % p
  | [], _ => rfl
  | a :: l, h => by
    rw [sumZ_cons, sumZ_cons]
    exact mod_add (h a List.mem_cons_self) (sumZ_mod p f g l fun b hb => h b (List.mem_cons_of_mem _ hb))
theorem range_getD (l : List Int) : (List.range l.length).map (fun j => l.getD j 0) = l := by
  apply List.ext_getElem
  · simp
  · intro i h1 h2
    rw [List.getElem_map, List.getElem_range, List.getD_eq_getElem?_getD, List.getElem?_eq_getElem h2]; rfl
/-- the value of a sum of rows -/
theorem polySum_at (p x : Int) {rows : List (List Int)} {ws : List Int} {m : Nat} (h0 : 0 < rows.length) (hm : ∀ r ∈ rows, r.length = m) : valueAt p (polySum p rows ws) x = sumZ (fun k => ws.getD k 0 * valueAt p (rows.getD k []) x) (List.range rows.length) % p := by
  have hg : ∀ k, k < rows.length → rows.getD k [] = rows.getD k [] ∧ (rows.getD k []).length = m := fun k hk => ⟨rfl, by
    rw [List.getD_eq_getElem?_getD, List.getElem?_eq_getElem hk]; exact hm _ (List.getElem_mem hk)⟩
  rw [valueAt_ev]
  unfold polySum
  rw [(hg 0 h0).2]
  refine (ev_fn p x _ (fun j => sumZ (fun k => ws.getD k 0 * (rows.getD k []).getD j 0) (List.range rows.length)) m fun j _ => mod_self _ _).trans ?_
  rw [ev_lin x (fun k => ws.getD k 0) (fun k j => (rows.getD k []).getD j 0) m]
  refine sumZ_mod p _ _ _ fun k hk => ?_
  have hk := List.mem_range.mp hk
  rw [valueAt_ev]
  refine mod_mul rfl ?_
  rw [mod_self]
  have := (hg k hk).2
  rw [← this, range_getD]
theorem polySum_len (p : Int) {rows : List (List Int)} {ws : List Int} {m : Nat} (h0 : 0 < rows.length) (hm : ∀ r ∈ rows, r.length = m) : (polySum p rows ws).length = m := by
  unfold polySum
  rw [List.length_map, List.length_range, List.getD_eq_getElem?_getD, List.getElem?_eq_getElem h0]
  exact hm _ (List.getElem_mem h0)
theorem polySum_range {p : Int} (hp : 0 < p) {rows : List (List Int)} {ws : List Int} : ∀ z ∈ polySum p rows ws, 0 ≤ z ∧ z < p := by
  intro z hz
  obtain ⟨j, _, rfl⟩ := List.mem_map.mp hz
  exact ⟨Int.emod_nonneg _ (by omega), Int.emod_lt_of_pos _ hp⟩
end Un
set_option maxHeartbeats 4000000
namespace Un
open PySem L2 TL
def S_lat (ds : List D) (d : D) : Prop := ∃ (p : Int) (poly : List Int) (x : Int), ds = [.int p, .tup (inz poly), .int x] ∧ (2 < p ∧ p ≤ 100000) ∧ (-1000 ≤ x ∧ x ≤ 1000) ∧ d = .int (valueAt p poly x)
def S_raised (ds : List D) (d : D) : Prop := ∃ (p a : Int) (k : Nat), ds = [.int p, .int a, .int (k : Int)] ∧ (2 < p ∧ p ≤ 100000) ∧ (0 ≤ a ∧ a < p) ∧ k ≤ 100000 ∧ d = .int (a ^ k % p)
def S_linv (ds : List D) (d : D) : Prop := ∃ (p a : Int), ds = [.int p, .int a] ∧ (2 < p ∧ p ≤ 100000) ∧ d = .int (a ^ (p - 2).toNat % p)
def S_lweights (ds : List D) (d : List D) : Prop := ∃ (p : Int) (ns : List Int) (x : Int), ds = [.int p, .lst (inz ns), .int x] ∧ (2 < p ∧ p ≤ 100000) ∧ Small ns ∧ (-1000 ≤ x ∧ x ≤ 1000) ∧ d = inz (ns.map (lw p ns x))
def S_lepochs (ds : List D) (d : List D) : Prop := ∃ rows : List Row, ds = [progD rows] ∧ rows.length ≤ 1000 ∧ d = (List.range rows.length).map fun k => .int (epochM rows k : Nat)
def S_lsends (ds : List D) (d : D) : Prop := ∃ (rows : List Row) (k i j : Nat) (r : Row), ds = [progD rows, .int (k : Int), .int (i : Int), .int (j : Int)] ∧ rows[k]? = some r ∧ d = .bl (sendsM r i j)
def S_lshares (ds : List D) (d : D) : Prop := ∃ (se : Se) (poly : List Int), ds = [se.d, .tup (inz poly)] ∧ se.Ok ∧ d = .tup ((ptsN se.n).map fun (i : Nat) => .int (valueAt se.p poly ((i : Nat) : Int)))
def rowsD (rows : List (List Int)) : D := .lst (rows.map fun r => .tup (inz r))
def lseenM (p : Int) (many : List (List Int)) (so : List Nat) : List D := (List.range many.length).map fun k => if k + 1 ∈ so then .tup (inz ((many.getD k []).drop 1)) else .tup (so.map fun (o : Nat) => .int (valueAt p (many.getD k []) ((o : Nat) : Int)))
def S_lseen (ds : List D) (d : D) : Prop := ∃ (se : Se) (many : List (List Int)) (so : List Nat), ds = [se.d, rowsD many, .tup (natz so)] ∧ se.Ok ∧ many.length ≤ 100 ∧ so.length ≤ 100 ∧ (∀ o ∈ so, o ≤ 100) ∧ d = .tup (lseenM se.p many so)
def S_lpoly (ds : List D) (d : D) : Prop := ∃ (p : Int) (rows : List (List Int)) (ws : List Int) (m : Nat), ds = [.int p, rowsD rows, .lst (inz ws)] ∧ (2 < p ∧ p ≤ 100000) ∧ 0 < rows.length ∧ rows.length ≤ 100 ∧ rows.length = ws.length ∧ m ≤ 100 ∧ (∀ r ∈ rows, r.length = m) ∧ (∀ w ∈ ws, -100000 ≤ w ∧ w ≤ 100000) ∧ d = .tup (inz (polySum p rows ws))
section
variable {P : Program} {w : World} {K : PySem.W.Frag} {mg : Str → Option Value} {base : Heap} {C : Addr} {g : Addr} {fd : FuncData}
abbrev s__law_at : Stmt := top 61
abbrev N__law_at : List Str := ["_law_p", "_law_poly", "_law_x", "_law_total", "_law_power", "_law_number_here"]
theorem sc__law_at : FnScope N__law_at ["_law_p", "_law_poly", "_law_x"] (defScope s__law_at) := ⟨rfl, rfl, rfl, by decide +kernel, rfl, by decide +kernel, by decide +kernel⟩
theorem ok_law_at (B : Bt mg) (F : Fun K "_law_at" "_law_at" s__law_at g fd) : FnOk P w K mg base CX0 1 g fd ["_law_p", "_law_poly", "_law_x"] (spD K C 3 S_lat) := by
  refine fn_D F sc__law_at rfl fun cdv A outer s H E G ds d hr hS => ?_
  obtain ⟨p, poly, x, rfl, ⟨hp, hp2⟩, ⟨hx, hx2⟩, rfl⟩ := hS
  have nd := sc__law_at.nd
  have em : ∀ z : Int, 0 ≤ z % p ∧ z % p < p := fun z => ⟨Int.emod_nonneg _ (by omega), Int.emod_lt_of_pos _ (by omega)⟩
  refine s_seq (s_set (i := 3) (d := .int (ev [] x % p)) nd rfl (.inl rfl) (lt_ rfl) (x_eq x_int (by show D.int 0 = .int (0 % p); rw [Int.zero_emod])) rfl) ?_
  refine s_seq (s_set (i := 4) (d := .int (x ^ ([] : List Int).length % p)) nd rfl (.inl rfl) (lt_ rfl) (x_eq x_int (by show D.int 1 = .int (x ^ 0 % p); rw [Int.pow_zero, Int.emod_eq_of_lt (by decide) (by omega)])) rfl) ?_
  refine s_cons (N1 := fun e => ∃ v v', e = [.dat (.int p), .dat (.tup (inz poly)), .dat (.int x), .dat (.int (ev poly x % p)), v, v']) (s_forl (l := poly) (h := D.int) (j := 5) (fun pre e => ∃ v, e = [.dat (.int p), .dat (.tup (inz poly)), .dat (.int x), .dat (.int (ev pre x % p)), .dat (.int (x ^ pre.length % p)), v]) PassesOwn.never rfl (i_tup (x_of (pv 1) rfl)) (pg_name (i := 5) nd rfl (.inl rfl)) ?_ ?_ ?_ ?_) ?_
  · exact ⟨.no, rfl⟩
  · rintro i _ ⟨v, rfl⟩; exact lt_ rfl
  · rintro pre c post _ hl ⟨v, rfl⟩
    obtain ⟨e1, e2⟩ := em (x ^ pre.length)
    refine s_seq (s_set (i := 3) nd rfl (.inl rfl) (lt_ rfl) (x_mod (by omega) (x_inti rfl B.int (x_add (x_of (pv 3) rfl) (x_mul (.inr ⟨by omega, by omega⟩) (x_of (pv 5) rfl) (x_of (pv 4) rfl)))) (x_of (pv 0) rfl)) rfl) ?_
    refine s_one (s_weak (s_set (i := 4) nd rfl (.inl rfl) (lt_ rfl) (x_mod (by omega) (x_inti rfl B.int (x_mul (.inl ⟨by omega, by omega⟩) (x_of (pv 4) rfl) (x_of (pv 2) rfl))) (x_of (pv 0) rfl)) rfl) ?_)
    rintro _ rfl
    refine ⟨.dat (.int c), ?_⟩
    have h1 : (ev pre x % p + c * (x ^ pre.length % p)) % p = ev (pre ++ [c]) x % p := by
      rw [ev_snoc]
      exact mod_add (mod_self _ _) (mod_mul rfl (mod_self _ _))
    have h2 : (x ^ pre.length % p * x) % p = x ^ (pre ++ [c]).length % p := by
      rw [List.length_append, List.length_singleton, Int.pow_succ, mul_emod_l]
    rw [← h1, ← h2]; rfl
  · rintro _ ⟨v, rfl⟩; exact ⟨_, v, rfl⟩
  · rintro _ ⟨v, v', rfl⟩
    exact s_one (s_ret (x_eq (x_of (pv 3) rfl) (by rw [valueAt_ev])))
abbrev s__law_raised : Stmt := top 62
abbrev N__law_raised : List Str := ["_law_p", "_law_a", "_law_k", "_law_found", "_law_turn"]
theorem sc__law_raised : FnScope N__law_raised ["_law_p", "_law_a", "_law_k"] (defScope s__law_raised) := ⟨rfl, rfl, rfl, by decide +kernel, rfl, by decide +kernel, by decide +kernel⟩
theorem ok_law_raised (B : Bt mg) (F : Fun K "_law_raised" "_law_raised" s__law_raised g fd) : FnOk P w K mg base CX0 1 g fd ["_law_p", "_law_a", "_law_k"] (spD K C 3 S_raised) := by
  refine fn_D F sc__law_raised rfl fun cdv A outer s H E G ds d hr hS => ?_
  obtain ⟨p, a, k, rfl, ⟨hp, hp2⟩, ⟨ha, ha2⟩, hk, rfl⟩ := hS
  have nd := sc__law_raised.nd
  have em : ∀ z : Int, 0 ≤ z % p ∧ z % p < p := fun z => ⟨Int.emod_nonneg _ (by omega), Int.emod_lt_of_pos _ (by omega)⟩
  refine s_seq (s_set (i := 3) nd rfl (.inl rfl) (lt_ rfl) (x_mod (by omega) (x_inti rfl B.int x_int) (x_of (pv 0) rfl)) rfl) ?_
  refine s_cons (N1 := fun e => ∃ q m v, e = [.dat (.int p), .dat (.int q), .dat (.int m), .dat (.int (a ^ k % p)), v]) (s_forr (lo := 0) (n := 40) (j := 4) (fun i e => ∃ f q v, e = [.dat (.int p), .dat (.int q), .dat (.int ((k / 2 ^ i : Nat) : Int)), .dat (.int f), v] ∧ (0 ≤ f ∧ f < p) ∧ (0 ≤ q ∧ q < p) ∧ (f * q ^ (k / 2 ^ i)) % p = a ^ k % p) PassesOwn.never rfl (i_rng1 (by decide) rfl B.range x_int) (pg_name (i := 4) nd rfl (.inl rfl)) ?_ ?_ ?_ ?_) ?_
  · refine ⟨1 % p, a, .no, by simp; rfl, em 1, ⟨ha, ha2⟩, ?_⟩
    rw [mul_emod_l, Int.one_mul, Nat.pow_zero, Nat.div_one]
  · rintro i _ ⟨f, q, v, rfl, _⟩; exact lt_ rfl
  · rintro i _ hi ⟨f, q, v, rfl, ⟨f0, f1⟩, ⟨q0, q1⟩, h⟩
    refine ss_ifj (δ1 := [.dat (.int p), .dat (.int q), .dat (.int ((k / 2 ^ i : Nat) : Int)), .dat (.int (if (k / 2 ^ i) % 2 = 1 then f * q % p else f)), .dat (.int (0 + (i : Nat)))]) (t_cmp op_eq rd_eqI (x_mod (by decide) (x_inti rfl B.int (x_of (pv 2) rfl)) x_int) x_int (nomark _)) (fun hc => ?_) (fun hc => ?_) ?_
    · have hc : ((k / 2 ^ i : Nat) : Int) % 2 = 1 := of_decide_eq_true hc
      rw [if_pos (show (k / 2 ^ i) % 2 = 1 by omega)]
      exact s_one (s_set (i := 3) nd rfl (.inl rfl) (lt_ rfl) (x_mod (by omega) (x_inti rfl B.int (x_mul (.inl ⟨by omega, by omega⟩) (x_of (pv 3) rfl) (x_of (pv 1) rfl))) (x_of (pv 0) rfl)) rfl)
    · have hc : ¬ ((k / 2 ^ i : Nat) : Int) % 2 = 1 := of_decide_eq_false hc
      rw [if_neg (show ¬ (k / 2 ^ i) % 2 = 1 by omega)]
      exact s_nil rfl
    refine s_seq (s_set (i := 1) nd rfl (.inl rfl) (lt_ rfl) (x_mod (by omega) (x_inti rfl B.int (x_mul (.inl ⟨by omega, by omega⟩) (x_of (pv 1) rfl) (x_of (pv 1) rfl))) (x_of (pv 0) rfl)) rfl) ?_
    refine s_one (s_weak (s_set (i := 2) (d := .int ((k / 2 ^ (i + 1) : Nat) : Int)) nd rfl (.inl rfl) (lt_ rfl) (x_eq (x_fdiv ⟨by decide, by omega⟩ (x_of (pv 2) rfl) x_int) ?_) rfl) ?_)
    · rw [Nat.pow_succ, ← Nat.div_div_eq_div_mul]; rfl
    · rintro _ rfl
      refine ⟨_, _, _, rfl, ?_, em _, ?_⟩
      · split
        · exact em _
        · exact ⟨f0, f1⟩
      · rw [Nat.pow_succ, ← Nat.div_div_eq_div_mul]
        exact pow_turn p f q a (k / 2 ^ i) k h
  · rintro _ ⟨f, q, v, rfl, ⟨f0, f1⟩, _, h⟩
    have hz : k / 2 ^ 40 = 0 := Nat.div_eq_of_lt (by have : (2 : Nat) ^ 40 = 1099511627776 := by decide
                                                     omega)
    rw [hz, Int.pow_zero, Int.mul_one, Int.emod_eq_of_lt f0 f1] at h
    exact ⟨q, _, v, by rw [h]⟩
  · rintro _ ⟨q, m, v, rfl⟩
    exact s_one (s_ret (x_of (pv 3) rfl))
abbrev s__law_inverse : Stmt := top 63
abbrev N__law_inverse : List Str := ["_law_p", "_law_a"]
theorem sc__law_inverse : FnScope N__law_inverse ["_law_p", "_law_a"] (defScope s__law_inverse) := ⟨rfl, rfl, rfl, by decide +kernel, rfl, by decide +kernel, by decide +kernel⟩
theorem ok_law_inverse (B : Bt mg) (c_law_raised : Glo P w K mg base "_law_raised" 1 ["_law_p", "_law_a", "_law_k"] (spD K C 3 S_raised)) (F : Fun K "_law_inverse" "_law_inverse" s__law_inverse g fd) : FnOk P w K mg base CX0 2 g fd ["_law_p", "_law_a"] (spD K C 2 S_linv) := by
  refine fn_D F sc__law_inverse rfl fun cdv A outer s H E G ds d hr hS => ?_
  obtain ⟨p, a, rfl, ⟨hp, hp2⟩, rfl⟩ := hS
  have em : ∀ z : Int, 0 ≤ z % p ∧ z % p < p := fun z => ⟨Int.emod_nonneg _ (by omega), Int.emod_lt_of_pos _ (by omega)⟩
  refine s_one (s_ret (x_eq (x_call c_law_raised hr (a_cons (x_of (pv 0) rfl) (a_cons (x_mod (by omega) (x_inti rfl B.int (x_of (pv 1) rfl)) (x_of (pv 0) rfl)) (a_cons (x_sub (x_of (pv 0) rfl) x_int) a_nil))) ⟨rfl, p, a % p, (p - 2).toNat, by rw [Int.toNat_of_nonneg (by omega)], ⟨hp, hp2⟩, em a, by omega, rfl⟩) ?_))
  rw [pow_emod]
abbrev s__law_weights : Stmt := top 64
abbrev N__law_weights : List Str := ["_law_p", "_law_points", "_law_x", "_law_found", "_law_one", "_law_top", "_law_low", "_law_other"]
theorem sc__law_weights : FnScope N__law_weights ["_law_p", "_law_points", "_law_x"] (defScope s__law_weights) := ⟨rfl, rfl, rfl, by decide +kernel, rfl, by decide +kernel, by decide +kernel⟩
theorem prodZ_snoc (a : Int) : ∀ l : List Int, prodZ (l ++ [a]) = prodZ l * a
  | [] => by show a * 1 = 1 * a; rw [Int.mul_one, Int.one_mul]
  | b :: l => by show b * prodZ (l ++ [a]) = b * prodZ l * a; rw [prodZ_snoc a l, Int.mul_assoc]
theorem prod_step (p y one : Int) (f : Int → Int) (pre : List Int) : prodZ (((pre ++ [y]).filter fun o => !decide (o = one)).map f) % p = if y = one then prodZ ((pre.filter fun o => !decide (o = one)).map f) % p else (prodZ ((pre.filter fun o => !decide (o = one)).map f) % p * f y) % p := by
  rw [filter_snoc]
  by_cases h : y = one
  · rw [if_pos h, if_neg (by simp [h]), List.append_nil]
  · rw [if_neg h, if_pos (by simp [h]), List.map_append]
    show prodZ (_ ++ [f y]) % p = _
    rw [prodZ_snoc, mul_emod_l]
theorem ok_law_weights (B : Bt mg) (c_law_inverse : Glo P w K mg base "_law_inverse" 2 ["_law_p", "_law_a"] (spD K C 2 S_linv)) (F : Fun K "_law_weights" "_law_weights" s__law_weights g fd) : FnOk P w K mg base CX0 3 g fd ["_law_p", "_law_points", "_law_x"] (spN K C 3 S_lweights) := by
  refine fn_N F sc__law_weights rfl fun cdv A outer s H E G ds d hr hS => ?_
  obtain ⟨p, ns, x, rfl, ⟨hp, hp2⟩, ⟨hl, hs⟩, ⟨hx, hx2⟩, rfl⟩ := hS
  have nd := sc__law_weights.nd
  have em : ∀ z : Int, 0 ≤ z % p ∧ z % p < p := fun z => ⟨Int.emod_nonneg _ (by omega), Int.emod_lt_of_pos _ (by omega)⟩
  refine s_seq (s_setN (i := 3) nd rfl (.inl rfl) (lt_ rfl) (x_lst a_nil) rfl) ?_
  refine s_cons (N1 := fun e => ∃ v1 v2 v3 v4, e = [.dat (.int p), .dat (.lst (inz ns)), .dat (.int x), .own (inz (ns.map (lw p ns x))), v1, v2, v3, v4]) (s_forl (l := ns) (h := D.int) (j := 4) (fun pre e => ∃ v1 v2 v3 v4, e = [.dat (.int p), .dat (.lst (inz ns)), .dat (.int x), .own (inz (pre.map (lw p ns x))), v1, v2, v3, v4]) PassesOwn.never rfl (i_lst (x_of (pv 1) rfl)) (pg_name (i := 4) nd rfl (.inl rfl)) ?_ ?_ ?_ ?_) ?_
  · exact ⟨.no, .no, .no, .no, rfl⟩
  · rintro i _ ⟨v1, v2, v3, v4, rfl⟩; exact lt_ rfl
  · rintro pre one post _ hl' ⟨v1, v2, v3, v4, rfl⟩
    have hone := hs one (by rw [hl']; simp)
    have hpl : pre.length < 100000 := by
      have := congrArg List.length hl'
      rw [List.length_append] at this
      omega
    refine s_seq (s_set (i := 5) (d := .int (prodZ ((([] : List Int).filter fun o => !decide (o = one)).map fun o => x - o) % p)) nd rfl (.inl rfl) (lt_ rfl) (x_eq x_int (by show D.int 1 = .int (1 % p); rw [Int.emod_eq_of_lt (by decide) (by omega)])) rfl) ?_
    refine s_seq (s_set (i := 6) (d := .int (prodZ ((([] : List Int).filter fun o => !decide (o = one)).map fun o => one - o) % p)) nd rfl (.inl rfl) (lt_ rfl) (x_eq x_int (by show D.int 1 = .int (1 % p); rw [Int.emod_eq_of_lt (by decide) (by omega)])) rfl) ?_
    refine s_cons (N1 := fun e => ∃ v4, e = [.dat (.int p), .dat (.lst (inz ns)), .dat (.int x), .own (inz (pre.map (lw p ns x))), .dat (.int one), .dat (.int (prodZ ((ns.filter fun o => !decide (o = one)).map fun o => x - o) % p)), .dat (.int (prodZ ((ns.filter fun o => !decide (o = one)).map fun o => one - o) % p)), v4])
      (s_forl (l := ns) (h := D.int) (j := 7) (fun q e => ∃ v4, e = [.dat (.int p), .dat (.lst (inz ns)), .dat (.int x), .own (inz (pre.map (lw p ns x))), .dat (.int one), .dat (.int (prodZ ((q.filter fun o => !decide (o = one)).map fun o => x - o) % p)), .dat (.int (prodZ ((q.filter fun o => !decide (o = one)).map fun o => one - o) % p)), v4]) PassesOwn.never rfl (i_lst (x_of (pv 1) rfl)) (pg_name (i := 7) nd rfl (.inl rfl)) ?_ ?_ ?_ ?_) ?_
    · exact ⟨v4, rfl⟩
    · rintro i _ ⟨v, rfl⟩; exact lt_ rfl
    · rintro q y post2 _ hl2 ⟨v, rfl⟩
      have hy := hs y (by rw [hl2]; simp)
      have e1 := em (prodZ ((q.filter fun o => !decide (o = one)).map fun o => x - o))
      have e2 := em (prodZ ((q.filter fun o => !decide (o = one)).map fun o => one - o))
      refine s_one (s_if (t_cmp op_ne rd_neI (x_of (pv 7) rfl) (x_of (pv 4) rfl) (nomark _)) (fun hc => ?_) (fun hc => ?_))
      · have hc : ¬ y = one := fun e => by rw [decide_eq_true e] at hc; cases hc
        refine s_seq (s_set (i := 5) nd rfl (.inl rfl) (lt_ rfl) (x_mod (by omega) (x_inti rfl B.int (x_mul (.inl ⟨by omega, by omega⟩) (x_of (pv 5) rfl) (x_sub (x_of (pv 2) rfl) (x_of (pv 7) rfl)))) (x_of (pv 0) rfl)) rfl) ?_
        refine s_one (s_weak (s_set (i := 6) nd rfl (.inl rfl) (lt_ rfl) (x_mod (by omega) (x_inti rfl B.int (x_mul (.inl ⟨by omega, by omega⟩) (x_of (pv 6) rfl) (x_sub (x_of (pv 4) rfl) (x_of (pv 7) rfl)))) (x_of (pv 0) rfl)) rfl) ?_)
        rintro _ rfl
        refine ⟨.dat (.int y), ?_⟩
        rw [prod_step, prod_step, if_neg hc, if_neg hc]; rfl
      · have hc : y = one := of_decide_eq_true (by cases q : decide (y = one) with | true => rfl | false => rw [q] at hc; cases hc)
        refine s_nil ⟨.dat (.int y), ?_⟩
        rw [prod_step, prod_step, if_pos hc, if_pos hc]; rfl
    · rintro _ h; exact h
    · rintro _ ⟨v4, rfl⟩
      have e1 := em (prodZ ((ns.filter fun o => !decide (o = one)).map fun o => x - o))
      refine s_one (s_weak (s_app (d := .int (lw p ns x one)) (pv 3) rfl (lt_ rfl) (by rw [List.length_map, List.length_map]; exact hpl) (x_mod (by omega) (x_inti rfl B.int (x_mul (.inl ⟨by omega, by omega⟩) (x_of (pv 5) rfl) (x_call c_law_inverse hr (a_cons (x_of (pv 0) rfl) (a_cons (x_of (pv 6) rfl) a_nil)) ⟨rfl, p, _, rfl, ⟨hp, hp2⟩, rfl⟩))) (x_of (pv 0) rfl)) rfl) ?_)
      rintro _ rfl
      exact ⟨_, _, _, v4, by rw [List.map_append]; simp only [inz, List.map_append]; rfl⟩
  · rintro _ h; exact h
  · rintro _ ⟨v1, v2, v3, v4, rfl⟩
    exact s_one (s_retO (pv 3) rfl)
end
end Un
set_option maxHeartbeats 4000000
namespace Un
open PySem L2 TL
section
variable {X : Cx} {f : Fm} {δ : List Sl}
theorem x_dget2 {o e e2 : Expr} {apos cpos : Pos} {kvs : List (Key × D)} {k : Key} {d0 : D} (hu : X.A.units + 1 < cLine) (ho : PE X o (tD X.K f δ (.dic kvs))) (hi : PE X e (tD X.K f δ (kD k))) (hf2 : PE X e2 (tD X.K f δ d0)) (m : M2 X o "get" apos e e2 cpos) :
    PE X (.Call (.Attribute o "get" apos) [e, e2] [] cpos) (tD X.K f δ ((valD kvs k).getD d0)) := pe_imp (pe_dget2 hu ho hi hf2 m) fun σ H Q ⟨G, rp, q⟩ => ⟨G, rp, fun v e G1 H1 t1 e1 z1 => by
  subst e1
  obtain ⟨a, ys, rfl, h1, h2⟩ := z1.dic_inv
  refine ⟨a, rfl, .inl ⟨ys, .inl (t1.gh _ _ h1)⟩, G1, rp.step t1, fun u e2' G2 H2 t2 e2 z2 => ⟨G2, (rp.step t1).step t2, fun u3 e3' G3 H3 t3 e3 z3 => ?_⟩⟩
  subst e2; subst e3
  refine ⟨valV ys k, ?_, ?_⟩
  · rw [dat_kD z2]; exact DGet.k ((t2.gg.trans (t3.gg.trans t3.gh)) _ _ h1)
  · have hv := h2.val k
    cases qq : valD kvs k with
    | none =>
      rw [qq] at hv
      rw [show valV ys k = none from hv]
      exact q _ _ G3 H3 (t1.trans (t2.trans t3)) (by rw [qq]; rfl) z3
    | some d =>
      rw [qq] at hv
      obtain ⟨w, ew, zw⟩ := hv
      rw [ew]
      exact q _ _ G3 H3 (t1.trans (t2.trans t3)) (by rw [qq]; rfl) (zw.mono (t2.gg.trans t3.gg))⟩
/-- {k1: v1, k2: v2, k3: v3}, texts and ints -/
theorem x_disp3 {k1 k2 k3 : Str} {j1 j2 j3 : Nat} {q1 q2 q3 pos : Pos} {e1 e2 e3 : Expr} {z1 z2 z3 : Int} (h1 : PE X e1 (tD X.K f δ (.int z1))) (h2 : PE X e2 (tD X.K f δ (.int z2))) (h3 : PE X e3 (tD X.K f δ (.int z3)))
    (hm : ∀ a b c : V, mergeK [] [((Sum.inr k1 : Key), a), (Sum.inr k2, b), (Sum.inr k3, c)] = [((Sum.inr k1 : Key), a), (Sum.inr k2, b), (Sum.inr k3, c)]) :
    PE X (.Dict [some (.Constant (.str k1) j1 q1), some (.Constant (.str k2) j2 q2), some (.Constant (.str k3) j3 q3)] [e1, e2, e3] pos) (tD X.K f δ (.dic [((Sum.inr k1 : Key), .int z1), (Sum.inr k2, .int z2), (Sum.inr k3, .int z3)])) :=
  pe_imp (pe_disp (pps_cons pe_str h1 (pps_cons pe_str h2 (pps_cons pe_str h3 pps_nil))) rfl rfl (by simp) (by simp)) fun σ H Q ⟨G, rp, q⟩ p hp => by
    have t0 := rp.stepNew (o := .dK []) hp
    have b := rp.back (Step.refl rp.gh) hp
    refine ⟨G, rp.step t0, fun v1 d1 G1 H1 t1 e1 y1 => ⟨G1, (rp.step t0).step t1, fun v2 d2 G2 H2 t2 e2 y2 => ⟨G2, ((rp.step t0).step t1).step t2, fun v3 d3 G3 H3 t3 e3 y3 => ?_⟩⟩⟩
    subst e1; subst e2; subst e3
    have tt := (t1.trans t2).trans t3
    have hp3 : H3 p = some (.dK []) := tt.rh _ _ b.2 upd_same
    have hg3 : G3 p = none := by
      cases qq : G3 p with
      | none => rfl
      | some o => exact absurd (rp.gh.none hp) (tt.fr p (ne_none upd_same) (ne_none qq))
    refine ⟨hp3, [((Sum.inr k1 : Key), v1), (Sum.inr k2, v2), (Sum.inr k3, v3)], rfl, by simp, ?_⟩
    rw [hm]
    have ta := (t0.trans tt).hid (o := .dK [((Sum.inr k1 : Key), v1), (Sum.inr k2, v2), (Sum.inr k3, v3)]) hp hg3 b.2
    have tb := ta.freeze hp hg3 b.2 upd_same
    have sb : Sub G3 (upd G3 p (.dK [((Sum.inr k1 : Key), v1), (Sum.inr k2, v2), (Sum.inr k3, v3)])) := Sub.new hg3
    exact q _ _ _ _ tb rfl (dat_dic upd_same (datk_cons (y1.mono ((t2.gg.trans t3.gg).trans sb)) (datk_cons (y2.mono (t3.gg.trans sb)) (datk_cons (y3.mono sb) datk_nil))))
end
end Un
set_option maxHeartbeats 4000000
namespace Un
open PySem L2 TL
def eachN (n : Nat) (r : Row) : Nat := if r.tag = 0 then 1 else if r.tag = 4 ∨ r.tag = 8 then n else 0
def coinsN (se : Se) (rows : List Row) : Nat := (rows.map fun r => se.t * eachN se.n r).sum
def S_lcoinsof (ds : List D) (d : D) : Prop := ∃ (se : Se) (rows : List Row), ds = [se.d, progD rows] ∧ se.Ok ∧ rows.length ≤ 60 ∧ d = .int (coinsN se rows : Nat)
section
variable {P : Program} {w : World} {K : PySem.W.Frag} {mg : Str → Option Value} {base : Heap} {C : Addr} {g : Addr} {fd : FuncData}
abbrev s__law_epochs : Stmt := top 66
abbrev N__law_epochs : List Str := ["_law_program_here", "_law_found", "_law_epoch", "_law_row"]
theorem sc__law_epochs : FnScope N__law_epochs ["_law_program_here"] (defScope s__law_epochs) := ⟨rfl, rfl, rfl, by decide +kernel, rfl, by decide +kernel, by decide +kernel⟩
def nextsM (rows : List Row) : Nat := (rows.filter fun r => decide (r.tag = 7)).length
theorem ok_law_epochs (B : Bt mg) (F : Fun K "_law_epochs" "_law_epochs" s__law_epochs g fd) : FnOk P w K mg base CX0 1 g fd ["_law_program_here"] (spN K C 1 S_lepochs) := by
  refine fn_N F sc__law_epochs rfl fun cdv A outer s H E G ds d hr hS => ?_
  obtain ⟨rows, rfl, hz, rfl⟩ := hS
  have nd := sc__law_epochs.nd
  refine s_seq (s_setN (i := 1) nd rfl (.inl rfl) (lt_ rfl) (x_lst a_nil) rfl) ?_
  refine s_seq (s_set (i := 2) (d := .int (nextsM [] : Nat)) nd rfl (.inl rfl) (lt_ rfl) x_int rfl) ?_
  refine s_cons (N1 := fun e => ∃ v1 v2, e = [.dat (progD rows), .own ((List.range rows.length).map fun k => .int (epochM rows k : Nat)), v1, v2]) (s_forl (l := rows) (h := Row.d) (j := 3) (fun pre e => ∃ v, e = [.dat (progD rows), .own ((List.range pre.length).map fun k => .int (epochM rows k : Nat)), .dat (.int (nextsM pre : Nat)), v] ∧ pre <+: rows) PassesOwn.never rfl (i_tup (x_ixt (x_of (pv 0) rfl) x_int rfl)) (pg_name (i := 3) nd rfl (.inl rfl)) ?_ ?_ ?_ ?_) ?_
  · exact ⟨.no, rfl, List.nil_prefix⟩
  · rintro i _ ⟨v, rfl, _⟩; exact lt_ rfl
  · rintro pre r post _ hl ⟨v, rfl, _⟩
    have hpl : pre.length < 1000 := by
      have := congrArg List.length hl
      rw [List.length_append, List.length_cons] at this
      omega
    have hp2 : pre ++ [r] <+: rows := ⟨post, by rw [hl]; simp⟩
    have hn : nextsM (pre ++ [r]) = nextsM pre + (if decide (r.tag = 7) then 1 else 0) := by
      unfold nextsM
      rw [filter_snoc, List.length_append]
      split <;> rfl
    have he : epochM rows pre.length = nextsM (pre ++ [r]) := by
      unfold epochM nextsM
      rw [hl, List.take_append, List.take_of_length_le (by omega), show pre.length + 1 - pre.length = 1 by omega]; rfl
    refine s_seq (s_set (i := 2) (d := .int (nextsM (pre ++ [r]) : Nat)) nd rfl (.inl rfl) (lt_ rfl) (x_eq (x_add (x_of (pv 2) rfl) (x_intb rfl B.int (x_eq (x_cmp op_eq rd_eqS (x_ixt (x_of (pv 3) rfl) x_int (at0 _ _)) x_str (nomark _)) (d' := .bl (decide (r.tag = 7))) (congrArg D.bl (k_is7 r.tag))))) ?_) rfl) ?_
    · rw [hn]
      cases decide (r.tag = 7) <;> rfl
    refine s_one (s_weak (s_app (d := .int (nextsM (pre ++ [r]) : Nat)) (pv 1) rfl (lt_ rfl) (by rw [List.length_map, List.length_range]; omega) (x_of (pv 2) rfl) rfl) ?_)
    rintro _ rfl
    refine ⟨.dat r.d, ?_, hp2⟩
    rw [List.length_append, List.length_singleton, List.range_succ, List.map_append]
    show _ = [_, Sl.own (_ ++ [D.int (epochM rows pre.length : Nat)]), _, _]
    rw [he]; rfl
  · rintro _ ⟨v, h, _⟩; exact ⟨_, v, h⟩
  · rintro _ ⟨v1, v2, rfl⟩
    exact s_one (s_retO (pv 1) rfl)
abbrev s__law_shares : Stmt := top 73
abbrev N__law_shares : List Str := ["_law_setting", "_law_poly", "_law_party"]
theorem sc__law_shares : FnScope N__law_shares ["_law_setting", "_law_poly"] (defScope s__law_shares) := ⟨rfl, rfl, rfl, by decide +kernel, rfl, by decide +kernel, by decide +kernel⟩
theorem rng_ptsN (n : Nat) : rngD 1 n = (ptsN n).map fun (i : Nat) => D.int ((i : Nat) : Int) := by
  unfold rngD ptsN
  rw [List.map_map]
  apply List.map_congr_left
  intro i _
  show D.int (1 + ((i : Nat) : Int)) = D.int ((i + 1 : Nat) : Int)
  congr 1; omega
theorem rng_n (n : Nat) : (((n : Nat) : Int) + 1 - 1).toNat = n := by omega
theorem ok_law_shares (B : Bt mg) (c_law_at : Glo P w K mg base "_law_at" 1 ["_law_p", "_law_poly", "_law_x"] (spD K C 3 S_lat)) (F : Fun K "_law_shares" "_law_shares" s__law_shares g fd) : FnOk P w K mg base CX0 2 g fd ["_law_setting", "_law_poly"] (spD K C 2 S_lshares) := by
  refine fn_D F sc__law_shares rfl fun cdv A outer s H E G ds d hr hS => ?_
  obtain ⟨se, poly, rfl, sok, rfl⟩ := hS
  have nd := sc__law_shares.nd
  have n2 := sok.n2; have p2 := sok.p2; have p3 := sok.p3
  have e : rngD 1 (((se.n : Nat) : Int) + 1 - 1).toNat = (ptsN se.n).map fun (i : Nat) => D.int ((i : Nat) : Int) := by rw [rng_n, rng_ptsN]
  refine s_one (s_ret (x_tuple rfl B.tuple (o_new (x_lca (l := ptsN se.n) (h := fun (i : Nat) => D.int ((i : Nat) : Int)) (fun (i : Nat) => D.int (valueAt se.p poly ((i : Nat) : Int))) (j := 2) rfl nd (lt_ rfl) (by rw [ptsN_len]; omega) (i_s (by rw [← e]; exact i_rng2 (by omega) (by omega) rfl B.range x_int (x_add (x_ixt (x_of (pv 0) rfl) x_int rfl) x_int))) (blkOk_by (N := N__law_shares) (sc := defScope s__law_shares) (by decide +kernel)) (fun _ _ _ _ _ => pg_name (i := 2) nd rfl (.inl rfl))
      (fun i hi _ _ _ _ _ => (x_call c_law_at hr (a_cons (x_ixt (x_of (pv 0) rfl) x_int rfl) (a_cons (x_of (pv 1) rfl) (a_cons (x_of (pv 2) rfl) a_nil))) ⟨rfl, se.p, poly, _, rfl, ⟨p2, by omega⟩, by have := mem_ptsN.mp hi; omega, rfl⟩))))))
abbrev s__law_seen : Stmt := top 74
abbrev N__law_seen : List Str := ["_law_setting", "_law_many", "_law_some", "_law_found", "_law_k", "_law_party"]
theorem sc__law_seen : FnScope N__law_seen ["_law_setting", "_law_many", "_law_some"] (defScope s__law_seen) := ⟨rfl, rfl, rfl, by decide +kernel, rfl, by decide +kernel, by decide +kernel⟩
theorem rowsD_at {rows : List (List Int)} {k : Nat} (h : k < rows.length) : atI (rows.map fun r => D.tup (inz r)) ((k : Nat) : Int) = some (.tup (inz (rows.getD k []))) := by
  apply atI_nat
  rw [List.getElem?_map, List.getElem?_eq_getElem h, List.getD_eq_getElem?_getD, List.getElem?_eq_getElem h]; rfl
theorem inz_drop1 (l : List Int) : cutD (inz l) (some 1) none = inz (l.drop 1) := by
  cases l with
  | nil => rfl
  | cons a l => exact cut1 _ _
theorem ok_law_seen (B : Bt mg) (c_law_at : Glo P w K mg base "_law_at" 1 ["_law_p", "_law_poly", "_law_x"] (spD K C 3 S_lat)) (F : Fun K "_law_seen" "_law_seen" s__law_seen g fd) : FnOk P w K mg base CX0 2 g fd ["_law_setting", "_law_many", "_law_some"] (spD K C 3 S_lseen) := by
  refine fn_D F sc__law_seen rfl fun cdv A outer s H E G ds d hr hS => ?_
  obtain ⟨se, many, so, rfl, sok, hm, hso, hs, rfl⟩ := hS
  have nd := sc__law_seen.nd
  have n2 := sok.n2; have p2 := sok.p2; have p3 := sok.p3
  let one : Nat → D := fun k => if k + 1 ∈ so then .tup (inz ((many.getD k []).drop 1)) else .tup (so.map fun (o : Nat) => .int (valueAt se.p (many.getD k []) ((o : Nat) : Int)))
  refine s_seq (s_setN (i := 3) nd rfl (.inl rfl) (lt_ rfl) (x_lst a_nil) rfl) ?_
  refine s_cons (N1 := fun e => ∃ v v', e = [.dat se.d, .dat (rowsD many), .dat (.tup (natz so)), .own ((List.range many.length).map one), v, v']) (s_forr (lo := 0) (n := many.length) (j := 4) (fun i e => ∃ v v', e = [.dat se.d, .dat (rowsD many), .dat (.tup (natz so)), .own ((List.range i).map one), v, v']) PassesOwn.never rfl (i_rng1 (by omega) rfl B.range (x_eq (x_len rfl B.len (o_l (o_lst (x_of (pv 1) rfl)))) (by rw [List.length_map]))) (pg_name (i := 4) nd rfl (.inr rfl)) ?_ ?_ ?_ ?_) ?_
  · exact ⟨.no, .no, rfl⟩
  · rintro i _ ⟨v, v', rfl⟩; exact lt_ rfl
  · rintro k _ hk ⟨v, v', rfl⟩
    have e1 : ∀ x, one k = x → (List.range (k + 1)).map one = (List.range k).map one ++ [x] := fun x h => by rw [List.range_succ, List.map_append, ← h]; rfl
    refine s_one (s_if (t_is (t_in (x_eq (x_add (x_of (pv 4) rfl) x_int) (d' := .int ((k + 1 : Nat) : Int)) (by congr 1; omega)) (o_tup (x_of (pv 2) rfl)) rfl (nat_flat _)) (nat_in _ _)) (fun hc => ?_) (fun hc => ?_))
    · refine s_one (s_weak (s_app (d := .tup (inz ((many.getD k []).drop 1))) (pv 3) rfl (lt_ rfl) (by rw [List.length_map, List.length_range]; omega) (x_eq (x_sl (x_ix (o_l (o_lst (x_of (pv 1) rfl))) (x_eq (x_of (pv 4) rfl) (d' := .int ((k : Nat) : Int)) (by rw [Int.zero_add])) (rowsD_at hk)) (p_int x_int) p_no) (congrArg D.tup (inz_drop1 _))) rfl) ?_)
      rintro _ rfl
      exact ⟨_, v', by rw [e1 _ (if_pos (of_decide_eq_true hc))]; rfl⟩
    · refine s_one (s_weak (s_app (d := .tup (so.map fun (o : Nat) => .int (valueAt se.p (many.getD k []) ((o : Nat) : Int)))) (pv 3) rfl (lt_ rfl) (by rw [List.length_map, List.length_range]; omega) (x_tuple rfl B.tuple (o_new (x_lca (l := so) (h := fun (i : Nat) => D.int ((i : Nat) : Int)) (fun (o : Nat) => D.int (valueAt se.p (many.getD k []) ((o : Nat) : Int))) (j := 5) rfl nd (lt_ rfl) (by omega) (i_s (i_tup (x_of (pv 2) rfl))) (blkOk_by (N := N__law_seen) (sc := defScope s__law_seen) (by decide +kernel)) (fun _ _ _ _ _ => pg_name (i := 5) nd rfl (.inl rfl))
        (fun o ho _ _ _ _ _ => (x_call c_law_at hr (a_cons (x_ixt (x_of (pv 0) rfl) x_int rfl) (a_cons (x_ix (o_l (o_lst (x_of (pv 1) rfl))) (x_eq (x_of (pv 4) rfl) (d' := .int ((k : Nat) : Int)) (by rw [Int.zero_add])) (rowsD_at hk)) (a_cons (x_of (pv 5) rfl) a_nil))) ⟨rfl, se.p, _, _, rfl, ⟨p2, by omega⟩, by have := hs o ho; omega, rfl⟩))))) rfl) ?_)
      rintro _ rfl
      exact ⟨_, v', by rw [e1 _ (if_neg (of_decide_eq_false hc))]; rfl⟩
  · rintro _ h; exact h
  · rintro _ ⟨v, v', rfl⟩
    exact s_one (s_ret (x_tuple rfl B.tuple (o_own (pv 3) rfl)))
abbrev s__law_sends : Stmt := top 76
abbrev N__law_sends : List Str := ["_law_program_here", "_law_k", "_law_i", "_law_j", "_law_row"]
theorem sc__law_sends : FnScope N__law_sends ["_law_program_here", "_law_k", "_law_i", "_law_j"] (defScope s__law_sends) := ⟨rfl, rfl, rfl, by decide +kernel, rfl, by decide +kernel, by decide +kernel⟩
theorem ok_law_sends (F : Fun K "_law_sends" "_law_sends" s__law_sends g fd) : FnOk P w K mg base CX0 1 g fd ["_law_program_here", "_law_k", "_law_i", "_law_j"] (spD K C 4 S_lsends) := by
  refine fn_D F sc__law_sends rfl fun cdv A outer s H E G ds d hr hS => ?_
  obtain ⟨rows, k, i, j, r, rfl, hk, rfl⟩ := hS
  have nd := sc__law_sends.nd
  have hne : ∀ b : Bool, (!decide (((i : Nat) : Int) = ((j : Nat) : Int)) && b) = (if i = j then false else b) := fun b => by
    rw [dec_nat]
    by_cases h : i = j
    · rw [if_pos h, decide_eq_true h]; rfl
    · rw [if_neg h, decide_eq_false h]; rfl
  refine s_seq (s_set (i := 4) nd rfl (.inl rfl) (lt_ rfl) (x_ixt (x_ixt (x_of (pv 0) rfl) x_int rfl) (x_of (pv 1) rfl) (rows_at hk)) rfl) ?_
  refine ss_ifl (t_is (t_cmp op_eq rd_eqS (x_ixt (x_of (pv 4) rfl) x_int (at0 _ _)) x_str (nomark _)) (k_is0 _)) (fun h => ?_) (fun h0 => ?_)
  · cases r with
    | inp m => exact s_one (s_ret (x_eq (x_and (x_cmp op_ne rd_neI (x_of (pv 2) rfl) (x_of (pv 3) rfl) (nomark _)) fun hc => (x_one (x_cmp op_eq rd_eqI (x_ixt (x_of (pv 4) rfl) x_int rfl) (x_of (pv 2) rfl) (nomark _)))) (by rw [hne, dec_nat]; rfl)))
    | _ => exact absurd h (by simp [Row.tag])
  refine ss_ifl (t_is (t_cmp op_eq rd_eqS (x_ixt (x_of (pv 4) rfl) x_int (at0 _ _)) x_str (nomark _)) (k_is6 _)) (fun h => ?_) (fun h6 => ?_)
  · cases r with
    | out a m => exact s_one (s_ret (x_eq (x_and (x_cmp op_ne rd_neI (x_of (pv 2) rfl) (x_of (pv 3) rfl) (nomark _)) fun hc => (x_one (x_cmp op_eq rd_eqI (x_ixt (x_of (pv 4) rfl) x_int rfl) (x_of (pv 3) rfl) (nomark _)))) (by rw [hne, dec_nat]; rfl)))
    | _ => exact absurd h (by simp [Row.tag])
  refine s_one (s_ret (x_eq (x_and (x_cmp op_ne rd_neI (x_of (pv 2) rfl) (x_of (pv 3) rfl) (nomark _)) fun hc => (x_one (x_in (x_ixt (x_of (pv 4) rfl) x_int (at0 _ _)) (o_tup (x_tup (a_cons x_str (a_cons x_str a_nil))))))) ?_))
  rw [hne, k_in48]
  cases r <;> first | rfl | (simp [Row.tag] at h0; done) | (simp [Row.tag] at h6; done)
abbrev s__law_coins_of : Stmt := top 69
abbrev N__law_coins_of : List Str := ["_law_setting", "_law_program_here", "_law_each", "_law_row"]
theorem sc__law_coins_of : FnScope N__law_coins_of ["_law_setting", "_law_program_here"] (defScope s__law_coins_of) := ⟨rfl, rfl, rfl, by decide +kernel, rfl, by decide +kernel, by decide +kernel⟩
theorem each_val (n : Nat) (r : Row) : (valD [((Sum.inr "in" : Key), D.int 1), (Sum.inr "product", .int (n : Int)), (Sum.inr "kept", .int (n : Int))] (Sum.inr (kindS r.tag))).getD (.int 0) = .int (eachN n r : Nat) := by
  have ne : ∀ a b : Str, (a == b) = false → ¬ (Sum.inr a : Key) = Sum.inr b := fun a b h e => by
    have := Sum.inr.inj e
    subst this
    simp at h
  have key : ∀ t : Fin 9, (valD [((Sum.inr "in" : Key), D.int 1), (Sum.inr "product", .int (n : Int)), (Sum.inr "kept", .int (n : Int))] (Sum.inr (kindS t))).getD (.int 0) = .int ((if t = 0 then 1 else if t = 4 ∨ t = 8 then n else 0 : Nat) : Int) := by
    intro t
    match t with
    | 0 => rw [valD_pos (by rfl)]; rfl
    | 1 => rw [valD_neg (ne _ _ (by decide +kernel)), valD_neg (ne _ _ (by decide +kernel)), valD_neg (ne _ _ (by decide +kernel))]; rfl
    | 2 => rw [valD_neg (ne _ _ (by decide +kernel)), valD_neg (ne _ _ (by decide +kernel)), valD_neg (ne _ _ (by decide +kernel))]; rfl
    | 3 => rw [valD_neg (ne _ _ (by decide +kernel)), valD_neg (ne _ _ (by decide +kernel)), valD_neg (ne _ _ (by decide +kernel))]; rfl
    | 4 => rw [valD_neg (ne _ _ (by decide +kernel)), valD_pos (by rfl)]; rfl
    | 5 => rw [valD_neg (ne _ _ (by decide +kernel)), valD_neg (ne _ _ (by decide +kernel)), valD_neg (ne _ _ (by decide +kernel))]; rfl
    | 6 => rw [valD_neg (ne _ _ (by decide +kernel)), valD_neg (ne _ _ (by decide +kernel)), valD_neg (ne _ _ (by decide +kernel))]; rfl
    | 7 => rw [valD_neg (ne _ _ (by decide +kernel)), valD_neg (ne _ _ (by decide +kernel)), valD_neg (ne _ _ (by decide +kernel))]; rfl
    | 8 => rw [valD_neg (ne _ _ (by decide +kernel)), valD_neg (ne _ _ (by decide +kernel)), valD_pos (by rfl)]; rfl
  exact key r.tag
theorem sum_nat : ∀ l : List Row, ∀ f : Row → Nat, (l.map fun r => ((f r : Nat) : Int)).sum = (((l.map f).sum : Nat) : Int)
  | [], _ => rfl
  | r :: l, f => by rw [List.map_cons, List.sum_cons, sum_nat l f, List.map_cons, List.sum_cons]; push_cast; rfl
theorem ok_law_coins_of (B : Bt mg) (F : Fun K "_law_coins_of" "_law_coins_of" s__law_coins_of g fd) : FnOk P w K mg base CX0 1 g fd ["_law_setting", "_law_program_here"] (spD K C 2 S_lcoinsof) := by
  refine fn_D F sc__law_coins_of rfl fun cdv A outer s H E G ds d hr hS => ?_
  obtain ⟨se, rows, rfl, sok, hz, rfl⟩ := hS
  have nd := sc__law_coins_of.nd
  have n2 := sok.n2; have tn := sok.tn
  refine s_seq (s_set (i := 2) nd rfl (.inr rfl) (lt_ rfl) (x_disp3 x_int (x_ixt (x_of (pv 0) rfl) x_int rfl) (x_ixt (x_of (pv 0) rfl) x_int rfl) (fun a b c => by rfl)) rfl) ?_
  refine s_one (s_ret (x_eq (x_suml (l := rows) (g := fun r => ((se.t * eachN se.n r : Nat) : Int)) rfl rfl B.sum (x_lca (l := rows) (h := Row.d) (fun r => D.int ((se.t * eachN se.n r : Nat) : Int)) (j := 3) rfl nd (lt_ rfl) (by omega) (i_s (i_tup (x_ixt (x_of (pv 1) rfl) x_int rfl))) (blkOk_by (N := N__law_coins_of) (sc := defScope s__law_coins_of) (by decide +kernel)) (fun _ _ _ _ _ => pg_name (i := 3) nd rfl (.inl rfl))
      (fun r hr' _ _ _ _ _ => x_eq (x_mul (j := ((eachN se.n r : Nat) : Int)) (.inl ⟨by omega, by omega⟩) (x_ixt (x_of (pv 0) rfl) x_int rfl) (x_eq (x_dget2 (hu_of hr) (k := Sum.inr (kindS r.tag)) (x_of (pv 2) rfl) (x_ixt (x_of (pv 3) rfl) x_int (at0 _ _)) x_int ⟨rfl, rfl, rfl, rfl⟩) (each_val se.n r))) (by push_cast; rfl)))) (by rw [sum_nat]; rfl)))
end
end Un
set_option maxHeartbeats 4000000
namespace Un
open PySem L2 TL
section
variable {P : Program} {w : World} {K : PySem.W.Frag} {mg : Str → Option Value} {base : Heap} {C : Addr} {g : Addr} {fd : FuncData}
abbrev s__law_poly_sum : Stmt := top 71
abbrev N__law_poly_sum : List Str := ["_law_p", "_law_rows", "_law_weighed", "_law_j", "_law_k"]
theorem sc__law_poly_sum : FnScope N__law_poly_sum ["_law_p", "_law_rows", "_law_weighed"] (defScope s__law_poly_sum) := ⟨rfl, rfl, rfl, by decide +kernel, rfl, by decide +kernel, by decide +kernel⟩
def compSc (l : List Stmt) : Scope := match l with
  | [.Return (some (.Call _ [.ListComp _ _ sc _] _ _)) _] => sc
  | _ => default
theorem sumR_eq (n : Nat) (f : Nat → Int) : sumZ f (List.range n) = ((List.range n).map f).sum := rfl
theorem ok_law_poly_sum (B : Bt mg) (F : Fun K "_law_poly_sum" "_law_poly_sum" s__law_poly_sum g fd) : FnOk P w K mg base CX0 1 g fd ["_law_p", "_law_rows", "_law_weighed"] (spD K C 3 S_lpoly) := by
  refine fn_D F sc__law_poly_sum rfl fun cdv A outer s H E G ds d hr hS => ?_
  obtain ⟨p, rows, ws, m, rfl, ⟨hp, hp2⟩, h0, hl, hlw, hm, hrow, hw, rfl⟩ := hS
  have nd := sc__law_poly_sum.nd
  have h0l : (rows.getD 0 []).length = m := by
    rw [List.getD_eq_getElem?_getD, List.getElem?_eq_getElem h0]; exact hrow _ (List.getElem_mem h0)
  have hkl : ∀ k, k < rows.length → (rows.getD k []).length = m := fun k hk => by
    rw [List.getD_eq_getElem?_getD, List.getElem?_eq_getElem hk]; exact hrow _ (List.getElem_mem hk)
  have hwk : ∀ k, k < rows.length → -100000 ≤ ws.getD k 0 ∧ ws.getD k 0 ≤ 100000 := fun k hk => by
    rw [List.getD_eq_getElem?_getD, List.getElem?_eq_getElem (show k < ws.length by omega)]; exact hw _ (List.getElem_mem _)
  have e : inz (polySum p rows ws) = (List.range m).map fun j => D.int (((List.range rows.length).map fun k => ws.getD k 0 * (rows.getD k []).getD j 0).sum % p) := by
    unfold polySum inz
    rw [List.map_map, h0l]; rfl
  rw [e]
  refine s_one (s_ret (x_tuple rfl B.tuple (o_new (x_lca (l := List.range m) (h := fun (j : Nat) => D.int (0 + ((j : Nat) : Int))) (fun j => D.int (((List.range rows.length).map fun k => ws.getD k 0 * (rows.getD k []).getD j 0).sum % p)) (j := 3) rfl nd (lt_ rfl) (by rw [List.length_range]; omega) (i_s (i_rng1 (n := m) (by omega) rfl B.range (x_eq (x_len rfl B.len (o_tup (x_ix (o_l (o_lst (x_of (pv 1) rfl))) x_int (rowsD_at h0)))) (by rw [List.length_map, h0l])))) (blkOk_by (N := N__law_poly_sum) (sc := defScope s__law_poly_sum) (by decide +kernel)) (fun _ _ _ _ _ => pg_name (i := 3) nd rfl (.inr rfl))
      (fun j hj _ _ _ _ _ => (x_mod (by omega) (x_inti rfl B.int (x_suml (l := List.range rows.length) (g := fun k => ws.getD k 0 * (rows.getD k []).getD j 0) rfl rfl B.sum (x_lca (l := List.range rows.length) (h := fun (k : Nat) => D.int (0 + ((k : Nat) : Int))) (fun k => D.int (ws.getD k 0 * (rows.getD k []).getD j 0)) (j := 4) rfl nd (lt_ rfl) (by rw [List.length_range]; omega) (i_s (i_rng1 (n := rows.length) (by omega) rfl B.range (x_eq (x_len rfl B.len (o_l (o_lst (x_of (pv 1) rfl)))) (by rw [List.length_map])))) (blkOk_by (N := N__law_poly_sum) (sc := relS (compSc (defBody s__law_poly_sum)) (defScope s__law_poly_sum)) (by decide +kernel)) (fun _ _ _ _ _ => pg_name (i := 4) nd rfl (.inl rfl))
        (fun k hk _ _ _ _ _ => x_mul (.inl ⟨by have := hwk k (List.mem_range.mp hk); omega, by have := hwk k (List.mem_range.mp hk); omega⟩) (x_ix (o_l (o_lst (x_of (pv 2) rfl))) (x_eq (x_of (pv 4) rfl) (d' := .int ((k : Nat) : Int)) (by rw [Int.zero_add])) (inz_at (by have := List.mem_range.mp hk; omega))) (x_ixt (x_ix (o_l (o_lst (x_of (pv 1) rfl))) (x_eq (x_of (pv 4) rfl) (d' := .int ((k : Nat) : Int)) (by rw [Int.zero_add])) (rowsD_at (List.mem_range.mp hk))) (x_eq (x_of (pv 3) rfl) (d' := .int ((j : Nat) : Int)) (by rw [Int.zero_add])) (inz_at (by rw [hkl k (List.mem_range.mp hk)]; exact List.mem_range.mp hj))))))) (x_of (pv 0) rfl)))))))
end
end Un
set_option maxHeartbeats 4000000
namespace Un
open PySem PySem.Spec PyProof.Rows L2
/-- a tuple that is not empty, taken no times or once -/
theorem tuple_few (a : Addr) (ws : Array Value) (m : Nat) (od : Option Addr) (os : Array (Option Value)) (u : Tok) (full : ws.isEmpty = false) : ∀ k : Int, k = 0 ∨ k = 1 →
    Meets (Builtin.«tuple.__mul__» ⟨[.ref a, .int k u], []⟩) fun _ R s => s.heap.get? a = some ⟨.type "tuple", od, .seq ws m, os⟩ ∧
      (if k = 0 then R (.ok (.ret (.ref s.heap.objs.size))) { s with heap := s.heap.push { cls := .type "tuple", data := .seq #[] }, toks := s.toks } else R (.ok (.ret (.ref a))) s) := by
  intro k hk
  have i1 := AutoSeq1.idx_int
  rcases hk with rfl | rfl
  all_goals
    refine .of_wp fun pr wo Ar Re st hh => ?_
    cases st with | mk h1 h2 h3 h4 h5 => ?_
    cases hh with | intro look z => ?_
    wp_walk using wpAny_loadPart' look
    exact ⟨_, rfl, z⟩
def rRepS (K : PySem.W.Frag) : R2 := fun x y H Q => ∃ l k xs, x = V.ref l ∧ y = V.int k ∧ SqT K H l xs ∧ xs ≠ [] ∧ ((k = 0 ∧ ∀ p, H p = none → Q (.ref p) (upd H p (.tup []))) ∨ (k = 1 ∧ Q (.ref l) H))
section
variable {X : Cx}
theorem op_repS : OpR X (binaryOp .Mult) (rRepS X.K) := fun pins st σ H x y v u Q I rx ry h => by
  rcases h with ⟨l, k, xs, e1, e2, tu, ne, q⟩
  subst e1; subst e2
  rcases ry with ⟨t, et⟩
  have ev : v = .ref l := rx
  subst ev; subst et
  rcases I.tuple tu with ⟨ws, rel, ⟨⟨oc, od, odt, os⟩, look, c1, m, c2⟩, _⟩
  have c1 : oc = .type "tuple" := c1
  have c2 : odt = .seq ws.toArray m := c2
  rw [c1, c2] at look
  have isT : st.TypeIs (.ref l) "tuple" := ⟨_, look, rfl⟩
  have full : ws.toArray.isEmpty = false := match ws, rel with
    | [], rel => absurd (List.eq_nil_of_length_eq_zero rel.length) ne
    | _ :: _, _ => rfl
  have road : ∀ Qd : Value → Shared → Prop, k = 0 ∨ k = 1 → (if k = 0 then Qd (.ref st.heap.objs.size) { st with heap := st.heap.push { cls := .type "tuple", data := .seq #[] }, toks := st.toks } else Qd (.ref l) st) →
      wpAny (model X.prog X.w) X.A (binaryOp .Mult (.ref l) (.int k t)) Qd X.xe st := fun Qd hk hq => by
    have c := call_meets (prog := X.prog) (w := X.w) (A := X.A) (Q := Qd) (E := X.xe) F.slot_tuple_mul isT F.entry_tuple_mul (F.args_tuple_mul_2 (.ref l) (.int k t)) (tuple_few l ws.toArray m od os t full k hk) ⟨look, hq⟩
    exact wpAny_binaryOp_repeat_ref (T := "tuple") (U := "int") (by decide) isT (fun s2 => typeIs_int s2 k t) noFill_tuple_mul F.fills_int_mul F.slot_int_rmul repeat_tuple F.slot_int_index.lookup
      (call_meets F.slot_int_rmul (typeIs_int st k t) F.entry_int_rmul (F.args_int_rmul_2 _ _) (int_rmul_tuple k t l ws.toArray m od os) ⟨look, rfl, isT, c⟩)
  rcases q with ⟨k0, q⟩ | ⟨k1, q⟩
  · refine road _ (.inl k0) ?_
    rw [if_pos k0]
    exact ⟨.ref _, _, I.laid (o := .tup []) (fun b ob z => Heap.get?_push_of_some _ z) (Nat.le_refl _) ⟨Nat.zero_le _, [], .nil, IsTup.new _ _⟩, rfl, q _ (I.hok.fresh (Nat.le_refl _))⟩
  · refine road _ (.inr k1) ?_
    rw [if_neg (by omega)]
    exact ⟨.ref l, _, I, rfl, q⟩
end
section
variable {X : Cx} {f : Fm} {δ : List Sl}
/-- (0,) * k, k at most 2 -/
theorem x_rept {a b : Expr} {pos : Pos} {d : D} {k : Nat} (hk : k ≤ 1000) (ha : PE X a (tD X.K f δ (.tup [d]))) (hb : PE X b (tD X.K f δ (.int (k : Int)))) :
    PE X (.BinOp a .Mult b pos) (tD X.K f δ (.tup (List.replicate k d))) := by
  have fl : ∀ {α : Type} (x : α) (k : Nat), (List.replicate k [x]).flatten = List.replicate k x := fun x k => by
    induction k with
    | zero => rfl
    | succ k ih => rw [List.replicate_succ, List.flatten_cons, ih, List.replicate_succ]; rfl
  have dr : ∀ {K : PySem.W.Frag} {C : Addr} {G : Hp} {v : V} (k : Nat), Dat K C G d v → Dats K C G (List.replicate k d) (List.replicate k v) := fun {K C G v} k h => by
    induction k with
    | zero => exact dats_nil
    | succ k ih => exact dats_cons h ih
  by_cases h2 : 2 ≤ k
  · refine pe_imp (pe_op op_repT ha hb) fun σ H Q ⟨G, rp, q⟩ => ⟨G, rp, fun v e G1 H1 t1 e1 z1 => ⟨G1, rp.step t1, fun u e2' G2 H2 t2 e2 z2 => ?_⟩⟩
    subst e1; subst e2
    obtain ⟨l, xs, rfl, s1, r1⟩ := z1.tup_inv
    obtain ⟨x, r, rfl, y1, y2⟩ := r1.inv
    have y2 := y2.inv0
    subst y2
    rw [z2.int_inv]
    refine ⟨l, (k : Int), [x], rfl, rfl, t2.gh.sqT (t2.gg.sqT s1), by simp, by omega, by omega, by simp, fun p hp => ?_⟩
    have t3 := ((rp.step t1).step t2).stepNewG (o := .tup (List.replicate ((k : Int)).toNat [x]).flatten) hp
    refine q _ _ _ _ ((t1.trans t2).trans t3) rfl (dat_tup (SqT.of upd_same) ?_)
    have e : (List.replicate ((k : Int)).toNat [x]).flatten = List.replicate k x := by rw [Int.toNat_natCast, fl]
    rw [e] at t3 ⊢
    exact dr k (y1.mono (t2.gg.trans t3.gg))
  · refine pe_imp (pe_op op_repS ha hb) fun σ H Q ⟨G, rp, q⟩ => ⟨G, rp, fun v e G1 H1 t1 e1 z1 => ⟨G1, rp.step t1, fun u e2' G2 H2 t2 e2 z2 => ?_⟩⟩
    subst e1; subst e2
    obtain ⟨l, xs, rfl, s1, r1⟩ := id z1.tup_inv
    obtain ⟨x, r, rfl, y1, y2⟩ := r1.inv
    have y2 := y2.inv0
    subst y2
    rw [z2.int_inv]
    refine ⟨l, (k : Int), [x], rfl, rfl, t2.gh.sqT (t2.gg.sqT s1), by simp, ?_⟩
    by_cases h0 : k = 0
    · subst h0
      refine .inl ⟨rfl, fun p hp => ?_⟩
      have t3 := ((rp.step t1).step t2).stepNewG (o := .tup []) hp
      exact q _ _ _ _ ((t1.trans t2).trans t3) rfl (dat_tup (SqT.of upd_same) dats_nil)
    · have h1 : k = 1 := by omega
      subst h1
      exact .inr ⟨rfl, q _ _ _ _ (t1.trans t2) rfl (z1.mono t2.gg)⟩
end
end Un
set_option maxHeartbeats 4000000
/-! the law's run -/
namespace Un
def inN (rows : List Row) : Nat := (rows.filter fun r => decide (r.tag = 0)).length
def plAt (ps : List (Option (List Int))) (a : Nat) : List Int := (ps.getD a none).getD []
def dealR (se : Se) (ins coins : List Int) (u at_ : Nat) (ps : List (Option (List Int))) (r : Row) : List (List Int) := match r with
  | .inp _ => [ins.getD u 0 :: (coins.drop at_).take se.t]
  | .prod a b => (List.range se.n).map fun (k : Nat) => (valueAt se.p (plAt ps a) ((k : Nat) + 1) * valueAt se.p (plAt ps b) ((k : Nat) + 1)) % se.p :: (coins.drop (at_ + se.t * k)).take se.t
  | .kept _ => (List.range se.n).map fun (k : Nat) => 0 :: (coins.drop (at_ + se.t * k)).take se.t
  | _ => []
def lwL (se : Se) : List Int := (pts se.n).map (lw se.p (pts se.n) 0)
def polR (se : Se) (ps : List (Option (List Int))) (many : List (List Int)) (r : Row) : Option (List Int) := match r with
  | .inp _ => some (many.getD 0 [])
  | .const c => some (c :: List.replicate se.t 0)
  | .times c a => some (polySum se.p [plAt ps a] [c])
  | .sum a b => some (polySum se.p [plAt ps a, plAt ps b] [1, 1])
  | .less a b => some (polySum se.p [plAt ps a, plAt ps b] [1, -1])
  | .prod _ _ => some (polySum se.p many (lwL se))
  | .kept a => some (polySum se.p (plAt ps a :: many) (List.replicate (se.n + 1) 1))
  | _ => none
def runTo (se : Se) (rows : List Row) (ins coins : List Int) : Nat → List (Option (List Int)) × List (List (List Int))
  | 0 => ([], [])
  | n + 1 => match rows[n]? with
    | none => runTo se rows ins coins n
    | some r => ((runTo se rows ins coins n).1 ++ [polR se (runTo se rows ins coins n).1 (dealR se ins coins (inN (rows.take n)) (coinsN se (rows.take n)) (runTo se rows ins coins n).1 r) r],
        (runTo se rows ins coins n).2 ++ [dealR se ins coins (inN (rows.take n)) (coinsN se (rows.take n)) (runTo se rows ins coins n).1 r])
def hasP (r : Row) : Prop := ¬ (r.tag = 6 ∨ r.tag = 7)
structure ProgOk (se : Se) (rows : List Row) : Prop where
  rws : RowsOk se rows
  wire : ∀ (k : Nat) (r : Row), rows[k]? = some r → ∀ a ∈ r.named, ∃ r', rows[a]? = some r' ∧ hasP r'
structure InOk (se : Se) (rows : List Row) (ins coins : List Int) : Prop where
  il : ins.length = inN rows
  ir : ∀ z ∈ ins, 0 ≤ z ∧ z < se.p
  cl : coins.length = coinsN se rows
  cr : ∀ z ∈ coins, 0 ≤ z ∧ z < se.p
theorem sum_app : ∀ (a b : List Nat), (a ++ b).sum = a.sum + b.sum
  | [], b => by simp
  | x :: a, b => by rw [List.cons_append, List.sum_cons, List.sum_cons, sum_app a b]; omega
theorem coinsN_app (se : Se) (a b : List Row) : coinsN se (a ++ b) = coinsN se a + coinsN se b := by unfold coinsN; rw [List.map_append, sum_app]
theorem inN_app (a b : List Row) : inN (a ++ b) = inN a + inN b := by unfold inN; rw [List.filter_append, List.length_append]
theorem coinsN_take {se : Se} {rows : List Row} {n : Nat} {r : Row} (h : rows[n]? = some r) : coinsN se (rows.take (n + 1)) = coinsN se (rows.take n) + se.t * eachN se.n r ∧ coinsN se (rows.take n) + se.t * eachN se.n r ≤ coinsN se rows := by
  obtain ⟨e1, e2⟩ := split_at h
  have e3 : coinsN se [r] = se.t * eachN se.n r := by unfold coinsN; simp
  refine ⟨by rw [e2, coinsN_app, e3], ?_⟩
  conv => rhs; rw [e1, show rows.take n ++ r :: rows.drop (n + 1) = rows.take n ++ ([r] ++ rows.drop (n + 1)) from rfl, coinsN_app, coinsN_app, e3]
  omega
theorem inN_take {rows : List Row} {n : Nat} {r : Row} (h : rows[n]? = some r) : inN (rows.take (n + 1)) = inN (rows.take n) + (if r.tag = 0 then 1 else 0) ∧ inN (rows.take n) + (if r.tag = 0 then 1 else 0) ≤ inN rows := by
  obtain ⟨e1, e2⟩ := split_at h
  have e3 : inN [r] = (if r.tag = 0 then 1 else 0) := by unfold inN; rw [List.filter_cons]; by_cases q : r.tag = 0 <;> simp [q]
  refine ⟨by rw [e2, inN_app, e3], ?_⟩
  conv => rhs; rw [e1, show rows.take n ++ r :: rows.drop (n + 1) = rows.take n ++ ([r] ++ rows.drop (n + 1)) from rfl, inN_app, inN_app, e3]
  omega
section
variable {se : Se} {rows : List Row} {ins coins : List Int}
theorem runTo_succ {n : Nat} {r : Row} (h : rows[n]? = some r) : runTo se rows ins coins (n + 1) = ((runTo se rows ins coins n).1 ++ [polR se (runTo se rows ins coins n).1 (dealR se ins coins (inN (rows.take n)) (coinsN se (rows.take n)) (runTo se rows ins coins n).1 r) r],
        (runTo se rows ins coins n).2 ++ [dealR se ins coins (inN (rows.take n)) (coinsN se (rows.take n)) (runTo se rows ins coins n).1 r]) := by
  rw [runTo, h]
theorem runTo_len : ∀ n, n ≤ rows.length → (runTo se rows ins coins n).1.length = n ∧ (runTo se rows ins coins n).2.length = n
  | 0, _ => ⟨rfl, rfl⟩
  | n + 1, h => by
    obtain ⟨h1, h2⟩ := runTo_len n (by omega)
    rw [runTo_succ (List.getElem?_eq_getElem (show n < rows.length by omega)), List.length_append, List.length_append, h1, h2]
    exact ⟨rfl, rfl⟩
def Good (se : Se) (l : List Int) : Prop := l.length = se.t + 1 ∧ ∀ z ∈ l, 0 ≤ z ∧ z < se.p
theorem good_take (io : InOk se rows ins coins) {z : Int} (hz : 0 ≤ z ∧ z < se.p) {a : Nat} (h : a + se.t ≤ coins.length) : Good se (z :: (coins.drop a).take se.t) := by
  refine ⟨by rw [List.length_cons, List.length_take, List.length_drop]; omega, fun y hy => ?_⟩
  rcases List.mem_cons.mp hy with e | e
  · rw [e]; exact hz
  · exact io.cr y (List.mem_of_mem_drop (List.mem_of_mem_take e))
theorem deal_good (sok : se.Ok) (io : InOk se rows ins coins) {n : Nat} {r : Row} (h : rows[n]? = some r) (ps : List (Option (List Int))) : ∀ l ∈ dealR se ins coins (inN (rows.take n)) (coinsN se (rows.take n)) ps r, Good se l := by
  have p2 := sok.p2
  have em : ∀ z : Int, 0 ≤ z % se.p ∧ z % se.p < se.p := fun z => ⟨Int.emod_nonneg _ (by omega), Int.emod_lt_of_pos _ (by omega)⟩
  obtain ⟨c1, c2⟩ := coinsN_take (se := se) h
  obtain ⟨i1, i2⟩ := inN_take h
  have cl := io.cl
  have step : ∀ k, k < se.n → se.t * k + se.t ≤ se.t * se.n := fun k hk => by
    rw [← Nat.mul_succ]; exact Nat.mul_le_mul_left _ hk
  intro l hl
  cases r with
  | inp j =>
    rw [List.mem_singleton.mp hl]
    have e1 : eachN se.n (.inp j) = 1 := rfl
    rw [e1] at c2
    have e2 : (if (Row.inp j).tag = 0 then 1 else 0) = 1 := rfl
    rw [e2] at i2
    refine good_take io ?_ (by omega)
    rw [List.getD_eq_getElem?_getD, List.getElem?_eq_getElem (show inN (rows.take n) < ins.length by rw [io.il]; omega)]
    exact io.ir _ (List.getElem_mem _)
  | prod a b =>
    obtain ⟨k, hk, rfl⟩ := List.mem_map.mp hl
    have e1 : eachN se.n (.prod a b) = se.n := rfl
    rw [e1] at c2
    have := step k (List.mem_range.mp hk)
    exact good_take io (em _) (by omega)
  | kept a =>
    obtain ⟨k, hk, rfl⟩ := List.mem_map.mp hl
    have e1 : eachN se.n (.kept a) = se.n := rfl
    rw [e1] at c2
    have := step k (List.mem_range.mp hk)
    exact good_take io ⟨by omega, by omega⟩ (by omega)
  | const c => cases hl
  | sum a b => cases hl
  | less a b => cases hl
  | times c a => cases hl
  | out a j => cases hl
  | next => cases hl
theorem sumG (sok : se.Ok) {rs : List (List Int)} {ws : List Int} (h0 : 0 < rs.length) (hm : ∀ r ∈ rs, Good se r) : Good se (polySum se.p rs ws) :=
  ⟨polySum_len se.p h0 fun r hr => (hm r hr).1, polySum_range (by have := sok.p2; omega)⟩
theorem deal_len (n : Nat) {r : Row} (u a : Nat) (ps : List (Option (List Int))) (h : r.tag = 4 ∨ r.tag = 8) : (dealR se ins coins u a ps r).length = se.n := by
  cases r <;> first | (simp [Row.tag] at h; done) | (show (List.map _ (List.range se.n)).length = _; rw [List.length_map, List.length_range])
/-- each wire has its polynomial -/
theorem pol_good (sok : se.Ok) (po : ProgOk se rows) (io : InOk se rows ins coins) : ∀ n, n ≤ rows.length → ∀ k r, k < n → rows[k]? = some r → hasP r → ∃ l, (runTo se rows ins coins n).1[k]? = some (some l) ∧ Good se l
  | 0, _, k, r, hk, _, _ => absurd hk (by omega)
  | n + 1, hn, k, r, hk, h, hp => by
    have hr : rows[n]? = some rows[n] := List.getElem?_eq_getElem (show n < rows.length by omega)
    obtain ⟨l1, l2⟩ := runTo_len (se := se) (rows := rows) (ins := ins) (coins := coins) n (by omega)
    rw [runTo_succ hr]
    by_cases e : k < n
    · obtain ⟨l, h1, h2⟩ := pol_good sok po io n (by omega) k r e h hp
      exact ⟨l, by rw [List.getElem?_append_left (by omega)]; exact h1, h2⟩
    · have e : k = n := by omega
      subst e
      rw [hr] at h
      have h := Option.some.inj h
      have n1 := sok.n1; have p2 := sok.p2
      have dg := deal_good sok io hr (runTo se rows ins coins k).1
      have rok := po.rws.2 k _ hr
      have wg : ∀ a ∈ rows[k].named, Good se (plAt (runTo se rows ins coins k).1 a) := fun a ha => by
        have hlt := rok.1 a ha
        obtain ⟨r', h1, h2⟩ := po.wire k _ hr a ha
        obtain ⟨l, h3, h4⟩ := pol_good sok po io k (by omega) a r' hlt h1 h2
        unfold plAt
        rw [List.getD_eq_getElem?_getD, h3]; exact h4
      rw [List.getElem?_append_right (by omega), l1, Nat.sub_self]
      generalize hps : (runTo se rows ins coins k).1 = ps at dg wg ⊢
      generalize hrr : rows[k] = rr at *
      subst h
      cases rr with
      | inp j => exact ⟨_, rfl, dg _ (by show _ ∈ [_]; exact List.mem_singleton.mpr rfl)⟩
      | const c =>
        refine ⟨_, rfl, by simp, fun z hz => ?_⟩
        rcases List.mem_cons.mp hz with e | e
        · rw [e]; exact rok.2
        · rw [(List.mem_replicate.mp e).2]; omega
      | times c a => exact ⟨_, rfl, sumG sok (by simp) fun r hr => by rw [List.mem_singleton.mp hr]; exact wg a (by simp [Row.named])⟩
      | sum a b => exact ⟨_, rfl, sumG sok (by simp) fun r hr => by
          rcases List.mem_cons.mp hr with e | e
          · rw [e]; exact wg a (by simp [Row.named])
          · rw [List.mem_singleton.mp e]; exact wg b (by simp [Row.named])⟩
      | less a b => exact ⟨_, rfl, sumG sok (by simp) fun r hr => by
          rcases List.mem_cons.mp hr with e | e
          · rw [e]; exact wg a (by simp [Row.named])
          · rw [List.mem_singleton.mp e]; exact wg b (by simp [Row.named])⟩
      | prod a b => exact ⟨_, rfl, sumG sok (by rw [deal_len (r := .prod a b) 0 _ _ _ (.inl rfl)]; omega) dg⟩
      | kept a => exact ⟨_, rfl, sumG sok (by simp) fun r hr => by
          rcases List.mem_cons.mp hr with e | e
          · rw [e]; exact wg a (by simp [Row.named])
          · exact dg r e⟩
      | out a j => exact absurd (.inl rfl) hp
      | next => exact absurd (.inr rfl) hp
end
end Un
set_option maxHeartbeats 4000000
namespace Un
open PySem L2 TL
def polD : Option (List Int) → D
  | none => .non
  | some l => .tup (inz l)
theorem cutc (l : List Int) (a t : Nat) (x y : Int) (hx : x = (a : Int)) (hy : y = ((a + t : Nat) : Int)) : cutD (inz l) (some x) (some y) = inz ((l.drop a).take t) := by
  subst hx; subst hy
  rw [cutD_mid, show a + t - a = t by omega]
  unfold inz
  rw [← List.map_drop, ← List.map_take]
section
variable {X : Cx} {f : Fm} {δ : List Sl}
theorem ss_either {st : List Stmt} {i : Nat} {ds : List D} {v : Sl} {δ1 : List Sl} {N : List Sl → Prop} {R : V → Hp → Prop} (hd : dAt δ i = v) (hv : v = .own ds ∨ v = .dat (.lst ds)) (hl : i < δ.length) (h1 : δ.set i (.dat (.lst ds)) = δ1) (h : PSs X st (tX X.K f δ1 N R)) : PSs X st (tX X.K f δ N R) := by
  rcases hv with rfl | rfl
  · exact ss_frz hd hl h1 h
  · have e : δ[i] = .dat (.lst ds) := by unfold dAt at hd; rw [List.getD_eq_getElem?_getD, List.getElem?_eq_getElem hl] at hd; exact hd
    have e2 : δ.set i (.dat (.lst ds)) = δ := by rw [← e]; exact List.set_getElem_self hl
    rw [← h1, e2] at h
    exact h
theorem s_ifF {c : Expr} {a b : List Stmt} {pos : Pos} {N : List Sl → Prop} {R : V → Hp → Prop} (hc : PT X c (tBo X.K f δ false)) (hb : PSs X b (tX X.K f δ N R)) : PS X (.If c a b pos) (tX X.K f δ N R) := s_if hc (fun h => absurd h (by decide)) (fun _ => hb)
theorem s_ifT {c : Expr} {a b : List Stmt} {pos : Pos} {N : List Sl → Prop} {R : V → Hp → Prop} (hc : PT X c (tBo X.K f δ true)) (hb : PSs X a (tX X.K f δ N R)) : PS X (.If c a b pos) (tX X.K f δ N R) := s_if hc (fun _ => hb) (fun h => absurd h (by decide))
end
theorem pol_at {ps : List (Option (List Int))} {a : Nat} {l : List Int} (h : ps[a]? = some (some l)) : atI (ps.map polD) ((a : Nat) : Int) = some (.tup (inz (plAt ps a))) := by
  apply atI_nat
  rw [List.getElem?_map, h]
  unfold plAt
  rw [List.getD_eq_getElem?_getD, h]; rfl
def runDs (se : Se) (rows : List Row) (ins coins : List Int) : List D := [.lst ((runTo se rows ins coins rows.length).1.map polD), .lst ((runTo se rows ins coins rows.length).2.map rowsD)]
def S_lrun (ds : List D) (d : List D) : Prop := ∃ (se : Se) (rows : List Row) (ins coins : List Int), ds = [se.d, progD rows, .tup (inz ins), .tup (inz coins)] ∧ se.Ok ∧ ProgOk se rows ∧ InOk se rows ins coins ∧ d = runDs se rows ins coins
section
variable {P : Program} {w : World} {K : PySem.W.Frag} {mg : Str → Option Value} {base : Heap} {C : Addr} {g : Addr} {fd : FuncData}
abbrev s__law_run : Stmt := top 72
abbrev N__law_run : List Str := ["_law_setting", "_law_program_here", "_law_inputs_here", "_law_coins_here", "_law_p", "_law_n", "_law_t", "_law_polys", "_law_dealt", "_law_used", "_law_at_here", "_law_row", "_law_kind", "_law_poly", "_law_many", "_law_k", "_law_first"]
theorem sc__law_run : FnScope N__law_run ["_law_setting", "_law_program_here", "_law_inputs_here", "_law_coins_here"] (defScope s__law_run) := ⟨rfl, rfl, rfl, by decide +kernel, rfl, by decide +kernel, by decide +kernel⟩
theorem cut_se (se : Se) : cutD [.str "setting", .int se.p, .int (se.n : Int), .int (se.t : Int)] (some 1) none = [.int se.p, .int (se.n : Int), .int (se.t : Int)] := cut1 _ _
theorem ok_law_run (B : Bt mg) (c_law_at : Glo P w K mg base "_law_at" 1 ["_law_p", "_law_poly", "_law_x"] (spD K C 3 S_lat)) (c_law_weights : Glo P w K mg base "_law_weights" 3 ["_law_p", "_law_points", "_law_x"] (spN K C 3 S_lweights)) (c_law_poly_sum : Glo P w K mg base "_law_poly_sum" 1 ["_law_p", "_law_rows", "_law_weighed"] (spD K C 3 S_lpoly))
    (F : Fun K "_law_run" "_law_run" s__law_run g fd) : FnOk P w K mg base CX0 4 g fd ["_law_setting", "_law_program_here", "_law_inputs_here", "_law_coins_here"] (spN K C 4 S_lrun) := by
  refine fn_N F sc__law_run rfl fun cdv A outer s H E G ds d hr hS => ?_
  obtain ⟨se, rows, ins, coins, rfl, sok, po, io, rfl⟩ := hS
  have nd := sc__law_run.nd
  have n1 := sok.n1; have n2 := sok.n2; have p2 := sok.p2; have p3 := sok.p3; have tn := sok.tn
  have hz := po.rws.1
  have em : ∀ z : Int, 0 ≤ z % se.p ∧ z % se.p < se.p := fun z => ⟨Int.emod_nonneg _ (by omega), Int.emod_lt_of_pos _ (by omega)⟩
  have vr : ∀ (l : List Int) (x : Int), 0 ≤ valueAt se.p l x ∧ valueAt se.p l x < se.p := fun l x => valueAt_range (by omega) l x
  refine s_seq (s_unpack (is := [4, 5, 6]) (ds := [.int se.p, .int (se.n : Int), .int (se.t : Int)]) (δ1 := [.dat se.d, .dat (progD rows), .dat (.tup (inz ins)), .dat (.tup (inz coins)), .dat (.int se.p), .dat (.int (se.n : Int)), .dat (.int (se.t : Int)), .no, .no, .no, .no, .no, .no, .no, .no, .no, .no]) rfl (x_eq (x_sl (x_of (pv 0) rfl) (p_int x_int) p_no) (congrArg D.tup (cut_se se))) (pgs_cons (pg_name (i := 4) nd rfl (.inl rfl)) (pgs_cons (pg_name (i := 5) nd rfl (.inl rfl)) (pgs_cons (pg_name (i := 6) nd rfl (.inl rfl)) pgs_nil))) (all_lt rfl) rfl rfl) ?_
  refine s_seq (s_setN (i := 7) nd rfl (.inl rfl) (lt_ rfl) (x_lst a_nil) rfl) ?_
  refine s_seq (s_setN (i := 8) nd rfl (.inl rfl) (lt_ rfl) (x_lst a_nil) rfl) ?_
  refine s_seq (s_set (i := 9) (d := .int (inN [] : Nat)) nd rfl (.inl rfl) (lt_ rfl) x_int rfl) ?_
  refine s_seq (s_set (i := 10) (d := .int (coinsN se [] : Nat)) nd rfl (.inl rfl) (lt_ rfl) x_int rfl) ?_
  refine s_cons (N1 := fun e => ∃ v9 v10 v11 v12 v13 v14 v15 v16, e = [.dat se.d, .dat (progD rows), .dat (.tup (inz ins)), .dat (.tup (inz coins)), .dat (.int se.p), .dat (.int (se.n : Int)), .dat (.int (se.t : Int)), .own ((runTo se rows ins coins rows.length).1.map polD), .own ((runTo se rows ins coins rows.length).2.map rowsD), v9, v10, v11, v12, v13, v14, v15, v16])
    (s_forl (l := rows) (h := Row.d) (j := 11) (fun pre e => ∃ v11 v12 v13 v14 v15 v16, e = [.dat se.d, .dat (progD rows), .dat (.tup (inz ins)), .dat (.tup (inz coins)), .dat (.int se.p), .dat (.int (se.n : Int)), .dat (.int (se.t : Int)), .own ((runTo se rows ins coins pre.length).1.map polD), .own ((runTo se rows ins coins pre.length).2.map rowsD), .dat (.int (inN pre : Nat)), .dat (.int (coinsN se pre : Nat)), v11, v12, v13, v14, v15, v16]) PassesOwn.never rfl (i_tup (x_ixt (x_of (pv 1) rfl) x_int rfl)) (pg_name (i := 11) nd rfl (.inl rfl)) ?_ ?_ ?_ ?_) ?_
  · exact ⟨.no, .no, .no, .no, .no, .no, rfl⟩
  · rintro i _ ⟨v11, v12, v13, v14, v15, v16, rfl⟩; exact lt_ rfl
  · rintro pre r post _ hl ⟨v11, v12, v13, v14, v15, v16, rfl⟩
    have hk : rows[pre.length]? = some r := by rw [hl, List.getElem?_append_right (Nat.le_refl _), Nat.sub_self]; rfl
    have hpre : rows.take pre.length = pre := by rw [hl]; exact List.take_left
    have hkl : pre.length < rows.length := (List.getElem?_eq_some_iff.mp hk).1
    obtain ⟨l1, l2⟩ := runTo_len (se := se) (rows := rows) (ins := ins) (coins := coins) pre.length (by omega)
    have hsucc := runTo_succ (se := se) (ins := ins) (coins := coins) hk
    have dg := deal_good sok io hk (runTo se rows ins coins pre.length).1
    obtain ⟨c1, c2⟩ := coinsN_take (se := se) hk
    obtain ⟨i1, i2⟩ := inN_take hk
    have t1 : (rows.take (pre.length + 1)) = pre ++ [r] := by rw [(split_at hk).2, hpre]
    rw [t1] at c1 i1
    rw [hpre] at hsucc dg c1 c2 i1 i2
    have rok := po.rws.2 _ r hk
    have wg : ∀ a ∈ r.named, ∃ l, (runTo se rows ins coins pre.length).1[a]? = some (some l) ∧ Good se l := fun a ha => by
      obtain ⟨r', h1, h2⟩ := po.wire _ r hk a ha
      exact pol_good sok po io pre.length (by omega) a r' (rok.1 a ha) h1 h2
    have wl : ∀ a ∈ r.named, Good se (plAt (runTo se rows ins coins pre.length).1 a) := fun a ha => by
      obtain ⟨l, h3, h4⟩ := wg a ha
      unfold plAt
      rw [List.getD_eq_getElem?_getD, h3]; exact h4
    have wat : ∀ a ∈ r.named, atI ((runTo se rows ins coins pre.length).1.map polD) ((a : Nat) : Int) = some (.tup (inz (plAt (runTo se rows ins coins pre.length).1 a))) := fun a ha => by
      obtain ⟨l, h3, h4⟩ := wg a ha
      exact pol_at h3
    generalize hps : runTo se rows ins coins pre.length = RT at *
    obtain ⟨ps, dl⟩ := RT
    simp only at *
    have cio := io.cl
    refine s_seq (s_set (i := 12) (d := .str (kindS r.tag)) nd rfl (.inl rfl) (lt_ rfl) (x_ixt (x_of (pv 11) rfl) x_int (at0 _ _)) rfl) ?_
    refine s_seq (s_set (i := 13) (d := .non) nd rfl (.inl rfl) (lt_ rfl) x_non rfl) ?_
    refine s_seq (s_setN (i := 14) nd rfl (.inl rfl) (lt_ rfl) (x_lst a_nil) rfl) ?_
    have dgl : (dealR se ins coins (inN pre) (coinsN se pre) ps r).length = eachN se.n r := by
      by_cases h : r.tag = 4 ∨ r.tag = 8
      · rw [deal_len 0 _ _ _ h]
        unfold eachN
        rw [if_neg (by rcases h with h | h <;> rw [h] <;> decide), if_pos h]
      · cases r <;> first | rfl | (exact absurd (.inl rfl) h) | (exact absurd (.inr rfl) h)
    refine s_cons (N1 := fun e => ∃ v14 v15 v16, (v14 = .own ((dealR se ins coins (inN pre) (coinsN se pre) ps r).map fun l => .tup (inz l)) ∨ v14 = .dat (rowsD (dealR se ins coins (inN pre) (coinsN se pre) ps r))) ∧ e = [.dat se.d, .dat (progD rows), .dat (.tup (inz ins)), .dat (.tup (inz coins)), .dat (.int se.p), .dat (.int (se.n : Int)), .dat (.int (se.t : Int)), .own (ps.map polD), .own (dl.map rowsD), .dat (.int (inN (pre ++ [r]) : Nat)), .dat (.int (coinsN se pre : Nat)), .dat r.d, .dat (.str (kindS r.tag)), .dat (polD (polR se ps (dealR se ins coins (inN pre) (coinsN se pre) ps r) r)), v14, v15, v16]) ?_ ?_
    · have kF : ∀ {t : Fin 9} {q : Str} {b : Bool}, decide (kindS t = q) = b → ∀ {δ : List Sl}, dAt δ 12 = .dat (.str (kindS t)) → True := fun _ _ _ => True.intro
      have lz : ps.length ≤ 60 := by omega
      cases r with
      | inp j =>
        have e1 : eachN se.n (.inp j) = 1 := rfl
        rw [e1] at c2
        have e2 : (if (Row.inp j).tag = 0 then 1 else 0) = 1 := rfl
        rw [e2] at i1 i2
        refine s_ifT (t_is (t_cmp op_eq rd_eqS (x_of (pv 12) rfl) x_str (nomark _)) ((k_is0 _).trans rfl)) ?_
        refine s_seq (s_set (i := 13) (d := .tup (inz (ins.getD (inN pre) 0 :: (coins.drop (coinsN se pre)).take se.t))) nd rfl (.inl rfl) (lt_ rfl) (x_eq (x_cat (by
            have h1 : (cutD (inz coins) (some ((coinsN se pre : Nat) : Int)) (some (((coinsN se pre : Nat) : Int) + ((se.t : Nat) : Int)))).length ≤ 100 := by
              rw [cutc coins (coinsN se pre) se.t _ _ rfl (by push_cast; rfl), List.length_map, List.length_take]; omega
            have h2 : (101 : Nat) ≤ sizeLine := by decide
            rw [List.length_singleton]; omega) (x_tup (a_cons (x_ixt (x_of (pv 2) rfl) (x_of (pv 9) rfl) (inz_at (by have := io.il; omega))) a_nil)) (x_sl (x_of (pv 3) rfl) (p_int (x_of (pv 10) rfl)) (p_int (x_add (x_of (pv 10) rfl) (x_of (pv 6) rfl))))) (by rw [cutc coins (coinsN se pre) se.t _ _ rfl (by push_cast; rfl)]; rfl)) rfl) ?_
        refine s_seq (s_setN (i := 14) nd rfl (.inl rfl) (lt_ rfl) (x_lst (a_cons (x_of (pv 13) rfl) a_nil)) rfl) ?_
        refine s_one (s_weak (s_set (i := 9) (d := .int (inN (pre ++ [Row.inp j]) : Nat)) nd rfl (.inl rfl) (lt_ rfl) (x_eq (x_add (x_of (pv 9) rfl) x_int) (by rw [i1]; push_cast; rfl)) rfl) ?_)
        rintro _ rfl
        exact ⟨_, v15, v16, .inl rfl, rfl⟩
      | const c =>
        have e2 : inN (pre ++ [Row.const c]) = inN pre := by rw [i1]; rfl
        rw [e2]
        refine s_ifF (t_is (t_cmp op_eq rd_eqS (x_of (pv 12) rfl) x_str (nomark _)) ((k_is0 _).trans rfl)) (s_one ?_)
        refine s_ifT (t_is (t_cmp op_eq rd_eqS (x_of (pv 12) rfl) x_str (nomark _)) ((k_is1 _).trans rfl)) ?_
        refine s_one (s_weak (s_set (i := 13) (d := .tup (inz (c :: List.replicate se.t 0))) nd rfl (.inl rfl) (lt_ rfl) (x_eq (x_cat (by
            have h2 : (101 : Nat) ≤ sizeLine := by decide
            rw [List.length_singleton, List.length_replicate]; omega) (x_tup (a_cons (x_ixt (x_of (pv 11) rfl) x_int rfl) a_nil)) (x_rept (by omega) (x_tup (a_cons x_int a_nil)) (x_of (pv 6) rfl))) (by
            show D.tup ([D.int c] ++ List.replicate se.t (D.int 0)) = .tup (D.int c :: (List.replicate se.t (0 : Int)).map D.int)
            rw [List.map_replicate]; rfl)) rfl) ?_)
        rintro _ rfl
        exact ⟨_, v15, v16, .inl rfl, rfl⟩
      | times c a =>
        have e2 : inN (pre ++ [Row.times c a]) = inN pre := by rw [i1]; rfl
        rw [e2]
        have ha : a ∈ (Row.times c a).named := List.mem_cons_self
        have hc := rok.2
        have hc : 0 ≤ c ∧ c < se.p := hc
        refine s_ifF (t_is (t_cmp op_eq rd_eqS (x_of (pv 12) rfl) x_str (nomark _)) ((k_is0 _).trans rfl)) (s_one ?_)
        refine s_ifF (t_is (t_cmp op_eq rd_eqS (x_of (pv 12) rfl) x_str (nomark _)) ((k_is1 _).trans rfl)) (s_one ?_)
        refine s_ifT (t_is (t_cmp op_eq rd_eqS (x_of (pv 12) rfl) x_str (nomark _)) ((k_is5 _).trans rfl)) ?_
        refine s_one (s_weak (s_set (i := 13) (d := .tup (inz (polySum se.p [plAt ps a] [c]))) nd rfl (.inl rfl) (lt_ rfl) (x_call c_law_poly_sum (hr.mono (by decide)) (a_cons (x_of (pv 4) rfl) (a_cons (x_frz (x_lst (a_cons (x_ix (o_l (o_own (pv 7) rfl)) (x_ixt (x_of (pv 11) rfl) x_int rfl) (wat a ha)) a_nil))) (a_cons (x_frz (x_lst (a_cons (x_ixt (x_of (pv 11) rfl) x_int rfl) a_nil))) a_nil))) ⟨rfl, se.p, [plAt ps a], [c], se.t + 1, rfl, ⟨p2, by omega⟩, Nat.succ_pos _, le_ rfl, rfl, by omega, fun r hr => by rw [List.mem_singleton.mp hr]; exact (wl a ha).1, fun z hz => by rw [List.mem_singleton.mp hz]; omega, rfl⟩) rfl) ?_)
        rintro _ rfl
        exact ⟨_, v15, v16, .inl rfl, rfl⟩
      | sum a b =>
        have e2 : inN (pre ++ [Row.sum a b]) = inN pre := by rw [i1]; rfl
        rw [e2]
        have ha : a ∈ (Row.sum a b).named := List.mem_cons_self
        have hb : b ∈ (Row.sum a b).named := List.mem_cons_of_mem _ List.mem_cons_self
        refine s_ifF (t_is (t_cmp op_eq rd_eqS (x_of (pv 12) rfl) x_str (nomark _)) ((k_is0 _).trans rfl)) (s_one ?_)
        refine s_ifF (t_is (t_cmp op_eq rd_eqS (x_of (pv 12) rfl) x_str (nomark _)) ((k_is1 _).trans rfl)) (s_one ?_)
        refine s_ifF (t_is (t_cmp op_eq rd_eqS (x_of (pv 12) rfl) x_str (nomark _)) ((k_is5 _).trans rfl)) (s_one ?_)
        refine s_ifT (t_is (t_in (x_of (pv 12) rfl) (o_tup (x_tup (a_cons x_str (a_cons x_str a_nil))))) ((k_in23 _).trans rfl)) ?_
        refine s_one (s_weak (s_set (i := 13) (d := .tup (inz (polySum se.p [plAt ps a, plAt ps b] [1, 1]))) nd rfl (.inl rfl) (lt_ rfl) (x_call c_law_poly_sum (hr.mono (by decide)) (a_cons (x_of (pv 4) rfl) (a_cons (x_frz (x_lst (a_cons (x_ix (o_l (o_own (pv 7) rfl)) (x_ixt (x_of (pv 11) rfl) x_int rfl) (wat a ha)) (a_cons (x_ix (o_l (o_own (pv 7) rfl)) (x_ixt (x_of (pv 11) rfl) x_int rfl) (wat b hb)) a_nil)))) (a_cons (x_frz (x_lst (a_cons x_int (a_cons (x_ix (d := .int 1) (o_l (o_new (x_lst (a_cons (x_neg x_int) (a_cons x_int a_nil))))) (x_eq (x_intb rfl B.int (x_eq (x_cmp op_eq rd_eqS (x_of (pv 12) rfl) x_str (nomark _)) (congrArg D.bl ((k_is2 _).trans rfl)))) (d' := .int 1) rfl) rfl) a_nil)))) a_nil))) ⟨rfl, se.p, [plAt ps a, plAt ps b], [1, 1], se.t + 1, rfl, ⟨p2, by omega⟩, Nat.succ_pos _, le_ rfl, rfl, by omega, fun r hr => by
            rcases List.mem_cons.mp hr with e | e
            · rw [e]; exact (wl a ha).1
            · rw [List.mem_singleton.mp e]; exact (wl b hb).1, fun z hz => by
            simp only [List.mem_cons, List.not_mem_nil, or_false] at hz
            omega, rfl⟩) rfl) ?_)
        rintro _ rfl
        exact ⟨_, v15, v16, .inl rfl, rfl⟩
      | less a b =>
        have e2 : inN (pre ++ [Row.less a b]) = inN pre := by rw [i1]; rfl
        rw [e2]
        have ha : a ∈ (Row.less a b).named := List.mem_cons_self
        have hb : b ∈ (Row.less a b).named := List.mem_cons_of_mem _ List.mem_cons_self
        refine s_ifF (t_is (t_cmp op_eq rd_eqS (x_of (pv 12) rfl) x_str (nomark _)) ((k_is0 _).trans rfl)) (s_one ?_)
        refine s_ifF (t_is (t_cmp op_eq rd_eqS (x_of (pv 12) rfl) x_str (nomark _)) ((k_is1 _).trans rfl)) (s_one ?_)
        refine s_ifF (t_is (t_cmp op_eq rd_eqS (x_of (pv 12) rfl) x_str (nomark _)) ((k_is5 _).trans rfl)) (s_one ?_)
        refine s_ifT (t_is (t_in (x_of (pv 12) rfl) (o_tup (x_tup (a_cons x_str (a_cons x_str a_nil))))) ((k_in23 _).trans rfl)) ?_
        refine s_one (s_weak (s_set (i := 13) (d := .tup (inz (polySum se.p [plAt ps a, plAt ps b] [1, -1]))) nd rfl (.inl rfl) (lt_ rfl) (x_call c_law_poly_sum (hr.mono (by decide)) (a_cons (x_of (pv 4) rfl) (a_cons (x_frz (x_lst (a_cons (x_ix (o_l (o_own (pv 7) rfl)) (x_ixt (x_of (pv 11) rfl) x_int rfl) (wat a ha)) (a_cons (x_ix (o_l (o_own (pv 7) rfl)) (x_ixt (x_of (pv 11) rfl) x_int rfl) (wat b hb)) a_nil)))) (a_cons (x_frz (x_lst (a_cons x_int (a_cons (x_ix (d := .int (-1)) (o_l (o_new (x_lst (a_cons (x_neg x_int) (a_cons x_int a_nil))))) (x_eq (x_intb rfl B.int (x_eq (x_cmp op_eq rd_eqS (x_of (pv 12) rfl) x_str (nomark _)) (congrArg D.bl ((k_is2 _).trans rfl)))) (d' := .int 0) rfl) rfl) a_nil)))) a_nil))) ⟨rfl, se.p, [plAt ps a, plAt ps b], [1, -1], se.t + 1, rfl, ⟨p2, by omega⟩, Nat.succ_pos _, le_ rfl, rfl, by omega, fun r hr => by
            rcases List.mem_cons.mp hr with e | e
            · rw [e]; exact (wl a ha).1
            · rw [List.mem_singleton.mp e]; exact (wl b hb).1, fun z hz => by
            simp only [List.mem_cons, List.not_mem_nil, or_false] at hz
            omega, rfl⟩) rfl) ?_)
        rintro _ rfl
        exact ⟨_, v15, v16, .inl rfl, rfl⟩
      | out a j =>
        have e2 : inN (pre ++ [Row.out a j]) = inN pre := by rw [i1]; rfl
        rw [e2]
        refine s_ifF (t_is (t_cmp op_eq rd_eqS (x_of (pv 12) rfl) x_str (nomark _)) ((k_is0 _).trans rfl)) (s_one ?_)
        refine s_ifF (t_is (t_cmp op_eq rd_eqS (x_of (pv 12) rfl) x_str (nomark _)) ((k_is1 _).trans rfl)) (s_one ?_)
        refine s_ifF (t_is (t_cmp op_eq rd_eqS (x_of (pv 12) rfl) x_str (nomark _)) ((k_is5 _).trans rfl)) (s_one ?_)
        refine s_ifF (t_is (t_in (x_of (pv 12) rfl) (o_tup (x_tup (a_cons x_str (a_cons x_str a_nil))))) ((k_in23 _).trans rfl)) (s_one ?_)
        refine s_ifF (t_is (PW.pt (w_or (t_is (t_cmp op_eq rd_eqS (x_of (pv 12) rfl) x_str (nomark _)) ((k_is4 _).trans rfl)) fun hc => (w_or1 (t_is (t_cmp op_eq rd_eqS (x_of (pv 12) rfl) x_str (nomark _)) ((k_is8 _).trans rfl))))) rfl) (s_nil ?_)
        exact ⟨_, v15, v16, .inl rfl, rfl⟩
      | next =>
        have e2 : inN (pre ++ [Row.next]) = inN pre := by rw [i1]; rfl
        rw [e2]
        refine s_ifF (t_is (t_cmp op_eq rd_eqS (x_of (pv 12) rfl) x_str (nomark _)) ((k_is0 _).trans rfl)) (s_one ?_)
        refine s_ifF (t_is (t_cmp op_eq rd_eqS (x_of (pv 12) rfl) x_str (nomark _)) ((k_is1 _).trans rfl)) (s_one ?_)
        refine s_ifF (t_is (t_cmp op_eq rd_eqS (x_of (pv 12) rfl) x_str (nomark _)) ((k_is5 _).trans rfl)) (s_one ?_)
        refine s_ifF (t_is (t_in (x_of (pv 12) rfl) (o_tup (x_tup (a_cons x_str (a_cons x_str a_nil))))) ((k_in23 _).trans rfl)) (s_one ?_)
        refine s_ifF (t_is (PW.pt (w_or (t_is (t_cmp op_eq rd_eqS (x_of (pv 12) rfl) x_str (nomark _)) ((k_is4 _).trans rfl)) fun hc => (w_or1 (t_is (t_cmp op_eq rd_eqS (x_of (pv 12) rfl) x_str (nomark _)) ((k_is8 _).trans rfl))))) rfl) (s_nil ?_)
        exact ⟨_, v15, v16, .inl rfl, rfl⟩
      | prod a b =>
        have e2 : inN (pre ++ [Row.prod a b]) = inN pre := by rw [i1]; rfl
        rw [e2]
        have ha : a ∈ (Row.prod a b).named := List.mem_cons_self
        have hb : b ∈ (Row.prod a b).named := List.mem_cons_of_mem _ List.mem_cons_self
        have e1 : eachN se.n (.prod a b) = se.n := rfl
        rw [e1] at c2
        refine s_ifF (t_is (t_cmp op_eq rd_eqS (x_of (pv 12) rfl) x_str (nomark _)) ((k_is0 _).trans rfl)) (s_one ?_)
        refine s_ifF (t_is (t_cmp op_eq rd_eqS (x_of (pv 12) rfl) x_str (nomark _)) ((k_is1 _).trans rfl)) (s_one ?_)
        refine s_ifF (t_is (t_cmp op_eq rd_eqS (x_of (pv 12) rfl) x_str (nomark _)) ((k_is5 _).trans rfl)) (s_one ?_)
        refine s_ifF (t_is (t_in (x_of (pv 12) rfl) (o_tup (x_tup (a_cons x_str (a_cons x_str a_nil))))) ((k_in23 _).trans rfl)) (s_one ?_)
        refine s_ifT (t_is (PW.pt (w_or (l := false) (t_is (t_cmp op_eq rd_eqS (x_of (pv 12) rfl) x_str (nomark _)) ((k_is4 _).trans rfl)) fun hc => by cases hc)) rfl) ?_
        let fF : Nat → Int := fun k => (valueAt se.p (plAt ps a) ((k : Nat) + 1) * valueAt se.p (plAt ps b) ((k : Nat) + 1)) % se.p
        let fP : Nat → List Int := fun k => fF k :: (coins.drop (coinsN se pre + se.t * k)).take se.t
        refine s_cons (N1 := fun e => ∃ v15 v16, e = [.dat se.d, .dat (progD rows), .dat (.tup (inz ins)), .dat (.tup (inz coins)), .dat (.int se.p), .dat (.int (se.n : Int)), .dat (.int (se.t : Int)), .own (ps.map polD), .own (dl.map rowsD), .dat (.int (inN pre : Nat)), .dat (.int (coinsN se pre : Nat)), .dat (Row.prod a b).d, .dat (.str (kindS (Row.prod a b).tag)), .dat .non, .own ((List.range se.n).map fun k => .tup (inz (fP k))), v15, v16]) (s_forr (lo := 0) (n := se.n) (j := 15) (fun m e => ∃ v15 v16, e = [.dat se.d, .dat (progD rows), .dat (.tup (inz ins)), .dat (.tup (inz coins)), .dat (.int se.p), .dat (.int (se.n : Int)), .dat (.int (se.t : Int)), .own (ps.map polD), .own (dl.map rowsD), .dat (.int (inN pre : Nat)), .dat (.int (coinsN se pre : Nat)), .dat (Row.prod a b).d, .dat (.str (kindS (Row.prod a b).tag)), .dat .non, .own ((List.range m).map fun k => .tup (inz (fP k))), v15, v16]) PassesOwn.never rfl (i_rng1 (by omega) rfl B.range (x_of (pv 5) rfl)) (pg_name (i := 15) nd rfl (.inl rfl)) ?_ ?_ ?_ ?_) ?_
        · exact ⟨v15, v16, rfl⟩
        · rintro i _ ⟨v15, v16, rfl⟩; exact lt_ rfl
        · rintro k _ hk' ⟨v15, v16, rfl⟩
          have stp : se.t * k + se.t ≤ se.t * se.n := by rw [← Nat.mul_succ]; exact Nat.mul_le_mul_left _ hk'
          have hcut := cutc coins (coinsN se pre + se.t * k) se.t (((coinsN se pre : Nat) : Int) + ((se.t : Nat) : Int) * (0 + ((k : Nat) : Int))) (((coinsN se pre : Nat) : Int) + ((se.t : Nat) : Int) * (0 + ((k : Nat) : Int)) + ((se.t : Nat) : Int)) (by rw [Int.zero_add]; push_cast; rfl) (by rw [Int.zero_add]; push_cast; rfl)
          refine s_seq (s_set (i := 16) (d := .int 0) nd rfl (.inl rfl) (lt_ rfl) x_int rfl) ?_
          have va := vr (plAt ps a) (((k : Nat) : Int) + 1)
          refine s_seq (s_ifT (t_is (t_cmp op_eq rd_eqS (x_of (pv 12) rfl) x_str (nomark _)) ((k_is4 _).trans rfl)) (s_one (s_set (i := 16) (d := .int (fF k)) nd rfl (.inl rfl) (lt_ rfl) (x_mod (by omega) (x_inti rfl B.int (x_mul (.inl ⟨by omega, by omega⟩) (x_call (d := .int (valueAt se.p (plAt ps a) (((k : Nat) : Int) + 1))) c_law_at (hr.mono (by decide)) (a_cons (x_of (pv 4) rfl) (a_cons (x_ix (o_l (o_own (pv 7) rfl)) (x_ixt (x_of (pv 11) rfl) x_int rfl) (wat a ha)) (a_cons (x_eq (x_add (x_of (pv 15) rfl) x_int) (d' := .int (((k : Nat) : Int) + 1)) (by rw [Int.zero_add])) a_nil))) ⟨rfl, se.p, _, _, rfl, ⟨p2, by omega⟩, by omega, rfl⟩) (x_call (d := .int (valueAt se.p (plAt ps b) (((k : Nat) : Int) + 1))) c_law_at (hr.mono (by decide)) (a_cons (x_of (pv 4) rfl) (a_cons (x_ix (o_l (o_own (pv 7) rfl)) (x_ixt (x_of (pv 11) rfl) x_int rfl) (wat b hb)) (a_cons (x_eq (x_add (x_of (pv 15) rfl) x_int) (d' := .int (((k : Nat) : Int) + 1)) (by rw [Int.zero_add])) a_nil))) ⟨rfl, se.p, _, _, rfl, ⟨p2, by omega⟩, by omega, rfl⟩))) (x_of (pv 4) rfl)) rfl))) ?_
          refine s_one (s_weak (s_app (d := .tup (inz (fP k))) (pv 14) rfl (lt_ rfl) (by rw [List.length_map, List.length_range]; omega) (x_eq (x_cat (by
              have h2 : (101 : Nat) ≤ sizeLine := by decide
              rw [hcut, List.length_singleton, List.length_map, List.length_take]; omega) (x_tup (a_cons (x_of (pv 16) rfl) a_nil)) (x_sl (x_of (pv 3) rfl) (p_int (x_add (x_of (pv 10) rfl) (x_mul (.inl ⟨by omega, by omega⟩) (x_of (pv 6) rfl) (x_of (pv 15) rfl)))) (p_int (x_add (x_add (x_of (pv 10) rfl) (x_mul (.inl ⟨by omega, by omega⟩) (x_of (pv 6) rfl) (x_of (pv 15) rfl))) (x_of (pv 6) rfl))))) (by rw [hcut]; rfl)) rfl) ?_)
          rintro _ rfl
          exact ⟨_, _, by rw [List.range_succ, List.map_append]; rfl⟩
        · rintro _ h; exact h
        rintro _ ⟨v15', v16', rfl⟩
        refine ss_frz (i := 14) rfl (lt_ rfl) rfl ?_
        have hmap : (D.lst ((List.range se.n).map fun k => .tup (inz (fP k)))) = rowsD ((List.range se.n).map fP) := by unfold rowsD; rw [List.map_map]; rfl
        rw [hmap]
        have hrg : rngD 1 (((se.n : Nat) : Int) + 1 - 1).toNat = inz (pts se.n) := by rw [rng_n, rng_pts]
        refine s_one (s_ifT (t_is (t_cmp op_eq rd_eqS (x_of (pv 12) rfl) x_str (nomark _)) ((k_is4 _).trans rfl)) (s_one (s_weak (s_set (i := 13) (d := .tup (inz (polySum se.p ((List.range se.n).map fP) (lwL se)))) nd rfl (.inl rfl) (lt_ rfl) (x_call c_law_poly_sum (hr.mono (by decide)) (a_cons (x_of (pv 4) rfl) (a_cons (x_of (pv 14) rfl) (a_cons (x_frz (x_callN (d := inz (lwL se)) c_law_weights (hr.mono (by decide)) (a_cons (x_of (pv 4) rfl) (a_cons (x_frz (x_eqN (x_listRg (RgOk.of_le (by decide) (by omega) (by decide) (by omega)) rfl rfl B.list (g_rng2 rfl B.range x_int (x_add (x_of (pv 5) rfl) x_int))) hrg)) (a_cons x_int a_nil))) ⟨rfl, se.p, pts se.n, 0, rfl, ⟨p2, by omega⟩, pts_small n2, by omega, rfl⟩)) a_nil))) ⟨rfl, se.p, (List.range se.n).map fP, lwL se, se.t + 1, rfl, ⟨p2, by omega⟩, by rw [List.length_map, List.length_range]; omega, by rw [List.length_map, List.length_range]; omega, by unfold lwL; rw [List.length_map, List.length_range, List.length_map, pts_len], by omega, fun l hl' => (dg l hl').1, fun z hz' => by
            obtain ⟨y, _, rfl⟩ := List.mem_map.mp hz'
            have := em (prodZ (((pts se.n).filter fun o => !decide (o = y)).map fun o => 0 - o) % se.p * ((prodZ (((pts se.n).filter fun o => !decide (o = y)).map fun o => y - o) % se.p) ^ (se.p - 2).toNat % se.p))
            unfold lw
            omega, rfl⟩) rfl) ?_)))
        rintro _ rfl
        exact ⟨_, v15', v16', .inr rfl, rfl⟩
      | kept a =>
        have e2 : inN (pre ++ [Row.kept a]) = inN pre := by rw [i1]; rfl
        rw [e2]
        have ha : a ∈ (Row.kept a).named := List.mem_cons_self
        have e1 : eachN se.n (.kept a) = se.n := rfl
        rw [e1] at c2
        refine s_ifF (t_is (t_cmp op_eq rd_eqS (x_of (pv 12) rfl) x_str (nomark _)) ((k_is0 _).trans rfl)) (s_one ?_)
        refine s_ifF (t_is (t_cmp op_eq rd_eqS (x_of (pv 12) rfl) x_str (nomark _)) ((k_is1 _).trans rfl)) (s_one ?_)
        refine s_ifF (t_is (t_cmp op_eq rd_eqS (x_of (pv 12) rfl) x_str (nomark _)) ((k_is5 _).trans rfl)) (s_one ?_)
        refine s_ifF (t_is (t_in (x_of (pv 12) rfl) (o_tup (x_tup (a_cons x_str (a_cons x_str a_nil))))) ((k_in23 _).trans rfl)) (s_one ?_)
        refine s_ifT (t_is (PW.pt (w_or (t_is (t_cmp op_eq rd_eqS (x_of (pv 12) rfl) x_str (nomark _)) ((k_is4 _).trans rfl)) fun hc => (w_or1 (t_is (t_cmp op_eq rd_eqS (x_of (pv 12) rfl) x_str (nomark _)) ((k_is8 _).trans rfl))))) rfl) ?_
        let fP : Nat → List Int := fun k => 0 :: (coins.drop (coinsN se pre + se.t * k)).take se.t
        refine s_cons (N1 := fun e => ∃ v15 v16, e = [.dat se.d, .dat (progD rows), .dat (.tup (inz ins)), .dat (.tup (inz coins)), .dat (.int se.p), .dat (.int (se.n : Int)), .dat (.int (se.t : Int)), .own (ps.map polD), .own (dl.map rowsD), .dat (.int (inN pre : Nat)), .dat (.int (coinsN se pre : Nat)), .dat (Row.kept a).d, .dat (.str (kindS (Row.kept a).tag)), .dat .non, .own ((List.range se.n).map fun k => .tup (inz (fP k))), v15, v16]) (s_forr (lo := 0) (n := se.n) (j := 15) (fun m e => ∃ v15 v16, e = [.dat se.d, .dat (progD rows), .dat (.tup (inz ins)), .dat (.tup (inz coins)), .dat (.int se.p), .dat (.int (se.n : Int)), .dat (.int (se.t : Int)), .own (ps.map polD), .own (dl.map rowsD), .dat (.int (inN pre : Nat)), .dat (.int (coinsN se pre : Nat)), .dat (Row.kept a).d, .dat (.str (kindS (Row.kept a).tag)), .dat .non, .own ((List.range m).map fun k => .tup (inz (fP k))), v15, v16]) PassesOwn.never rfl (i_rng1 (by omega) rfl B.range (x_of (pv 5) rfl)) (pg_name (i := 15) nd rfl (.inl rfl)) ?_ ?_ ?_ ?_) ?_
        · exact ⟨v15, v16, rfl⟩
        · rintro i _ ⟨v15, v16, rfl⟩; exact lt_ rfl
        · rintro k _ hk' ⟨v15, v16, rfl⟩
          have stp : se.t * k + se.t ≤ se.t * se.n := by rw [← Nat.mul_succ]; exact Nat.mul_le_mul_left _ hk'
          have hcut := cutc coins (coinsN se pre + se.t * k) se.t (((coinsN se pre : Nat) : Int) + ((se.t : Nat) : Int) * (0 + ((k : Nat) : Int))) (((coinsN se pre : Nat) : Int) + ((se.t : Nat) : Int) * (0 + ((k : Nat) : Int)) + ((se.t : Nat) : Int)) (by rw [Int.zero_add]; push_cast; rfl) (by rw [Int.zero_add]; push_cast; rfl)
          refine s_seq (s_set (i := 16) (d := .int 0) nd rfl (.inl rfl) (lt_ rfl) x_int rfl) ?_
          refine s_seq (s_ifF (t_is (t_cmp op_eq rd_eqS (x_of (pv 12) rfl) x_str (nomark _)) ((k_is4 _).trans rfl)) (s_nil rfl)) ?_
          refine s_one (s_weak (s_app (d := .tup (inz (fP k))) (pv 14) rfl (lt_ rfl) (by rw [List.length_map, List.length_range]; omega) (x_eq (x_cat (by
              have h2 : (101 : Nat) ≤ sizeLine := by decide
              rw [hcut, List.length_singleton, List.length_map, List.length_take]; omega) (x_tup (a_cons (x_of (pv 16) rfl) a_nil)) (x_sl (x_of (pv 3) rfl) (p_int (x_add (x_of (pv 10) rfl) (x_mul (.inl ⟨by omega, by omega⟩) (x_of (pv 6) rfl) (x_of (pv 15) rfl)))) (p_int (x_add (x_add (x_of (pv 10) rfl) (x_mul (.inl ⟨by omega, by omega⟩) (x_of (pv 6) rfl) (x_of (pv 15) rfl))) (x_of (pv 6) rfl))))) (by rw [hcut]; rfl)) rfl) ?_)
          rintro _ rfl
          exact ⟨_, _, by rw [List.range_succ, List.map_append]; rfl⟩
        · rintro _ h; exact h
        rintro _ ⟨v15', v16', rfl⟩
        have hrep : (List.replicate (se.n + 1) [D.int 1]).flatten = inz (List.replicate (se.n + 1) 1) := by
          have fl : ∀ k : Nat, (List.replicate k [D.int 1]).flatten = inz (List.replicate k 1) := fun k => by
            induction k with
            | zero => rfl
            | succ k ih => rw [List.replicate_succ, List.flatten_cons, ih, List.replicate_succ]; rfl
          exact fl _
        refine s_one (s_ifF (t_is (t_cmp op_eq rd_eqS (x_of (pv 12) rfl) x_str (nomark _)) ((k_is4 _).trans rfl)) (s_one (s_weak (s_set (i := 13) (d := .tup (inz (polySum se.p (plAt ps a :: (List.range se.n).map fP) (List.replicate (se.n + 1) 1)))) nd rfl (.inl rfl) (lt_ rfl) (x_call c_law_poly_sum (hr.mono (by decide)) (a_cons (x_of (pv 4) rfl) (a_cons (x_eq (x_frz (x_catl (by rw [List.length_map, List.length_range, List.length_singleton]; omega) (q_new (x_lst (a_cons (x_ix (o_l (o_own (pv 7) rfl)) (x_ixt (x_of (pv 11) rfl) x_int rfl) (wat a ha)) a_nil))) (q_own (pv 14) rfl))) (d' := rowsD (plAt ps a :: (List.range se.n).map fP)) (by unfold rowsD; rw [List.map_cons, List.map_map]; rfl)) (a_cons (x_frz (x_eqN (x_rep (k := se.n + 1) (by rw [List.length_singleton]; omega) (by omega) (q_new (x_lst (a_cons x_int a_nil))) (x_eq (x_add (x_of (pv 5) rfl) x_int) (by push_cast; rfl)) (fun _ _ _ _ h => dats_rep h _)) hrep)) a_nil))) ⟨rfl, se.p, plAt ps a :: (List.range se.n).map fP, List.replicate (se.n + 1) 1, se.t + 1, rfl, ⟨p2, by omega⟩, by simp, by rw [List.length_cons, List.length_map, List.length_range]; omega, by rw [List.length_cons, List.length_map, List.length_range, List.length_replicate], by omega, fun l hl' => by
            rcases List.mem_cons.mp hl' with e | e
            · rw [e]; exact (wl a ha).1
            · exact (dg l e).1, fun z hz' => by
            rw [(List.mem_replicate.mp hz').2]; omega, rfl⟩) rfl) ?_)))
        rintro _ rfl
        refine ⟨_, v15', v16', .inl ?_, rfl⟩
        show Sl.own _ = .own (((List.range se.n).map fP).map fun l => .tup (inz l))
        rw [List.map_map]; rfl
    · rintro _ ⟨v14', v15', v16', hv, rfl⟩
      refine ss_either (i := 14) rfl hv (lt_ rfl) rfl ?_
      refine s_seq (s_set (i := 10) (d := .int (coinsN se (pre ++ [r]) : Nat)) nd rfl (.inl rfl) (lt_ rfl) (x_eq (x_add (x_of (pv 10) rfl) (x_mul (.inl ⟨by omega, by omega⟩) (x_of (pv 6) rfl) (x_len rfl B.len (o_l (o_lst (x_of (pv 14) rfl)))))) (by rw [List.length_map, dgl, c1]; push_cast; rfl)) rfl) ?_
      refine s_seq (s_app (d := polD (polR se ps (dealR se ins coins (inN pre) (coinsN se pre) ps r) r)) (pv 7) rfl (lt_ rfl) (by rw [List.length_map]; omega) (x_of (pv 13) rfl) rfl) ?_
      refine s_one (s_weak (s_app (d := rowsD (dealR se ins coins (inN pre) (coinsN se pre) ps r)) (pv 8) rfl (lt_ rfl) (by rw [List.length_map]; omega) (x_of (pv 14) rfl) rfl) ?_)
      rintro _ rfl
      refine ⟨.dat r.d, .dat (.str (kindS r.tag)), .dat (polD (polR se ps (dealR se ins coins (inN pre) (coinsN se pre) ps r) r)), .dat (rowsD (dealR se ins coins (inN pre) (coinsN se pre) ps r)), v15', v16', ?_⟩
      rw [List.length_append, List.length_singleton, hsucc, List.map_append, List.map_append]
      rfl
  · rintro _ ⟨v11, v12, v13, v14, v15, v16, h⟩; exact ⟨_, _, v11, v12, v13, v14, v15, v16, h⟩
  · rintro _ ⟨v9, v10, v11, v12, v13, v14, v15, v16, rfl⟩
    refine ss_frz (i := 7) rfl (lt_ rfl) rfl ?_
    refine ss_frz (i := 8) rfl (lt_ rfl) rfl ?_
    exact s_one (s_retN (x_lst (a_cons (x_of (pv 7) rfl) (a_cons (x_of (pv 8) rfl) a_nil))))
end
end Un
set_option maxHeartbeats 4000000
namespace Un
open PySem L2 TL
abbrev LL := Nat × Let
def ld (l : LL) : D := letD l.1 l.2
def dlAt (dl : List (List (List Int))) (k : Nat) : List (List Int) := dl.getD k []
def numL2 (se : Se) (ps : List (Option (List Int))) (dl : List (List (List Int))) (k : Nat) (r : Row) (i j : Nat) : Int := match r with
  | .prod _ _ => valueAt se.p ((dlAt dl k).getD (i - 1) []) (j : Int)
  | .kept _ => valueAt se.p ((dlAt dl k).getD (i - 1) []) (j : Int)
  | .out a _ => valueAt se.p (plAt ps a) (i : Int)
  | _ => valueAt se.p (plAt ps k) (j : Int)
def oneL (se : Se) (ps : List (Option (List Int))) (dl : List (List (List Int))) (k : Nat) (r : Row) (i : Nat) (js : List Nat) : List LL := (js.filter fun j => sendsM r i j).map fun j => (j, (k, i, numL2 se ps dl k r i j))
def rowL (se : Se) (rows : List Row) (ps : List (Option (List Int))) (dl : List (List (List Int))) (k : Nat) : List LL := match rows[k]? with
  | none => []
  | some r => ((ptsN se.n).map fun i => oneL se ps dl k r i (ptsN se.n)).flatten
def letsL (se : Se) (rows : List Row) (ps : List (Option (List Int))) (dl : List (List (List Int))) (n : Nat) : List LL := ((List.range n).map (rowL se rows ps dl)).flatten
def llM (se : Se) (rows : List Row) (ins coins : List Int) : List LL := letsL se rows (runTo se rows ins coins rows.length).1 (runTo se rows ins coins rows.length).2 rows.length
def S_lletters (ds : List D) (d : List D) : Prop := ∃ (se : Se) (rows : List Row) (ins coins : List Int), ds = [se.d, progD rows, .tup (inz ins), .tup (inz coins)] ∧ se.Ok ∧ ProgOk se rows ∧ InOk se rows ins coins ∧ d = (llM se rows ins coins).map ld
theorem oneL_len (se : Se) (ps : List (Option (List Int))) (dl : List (List (List Int))) (k : Nat) (r : Row) (i : Nat) (js : List Nat) : (oneL se ps dl k r i js).length ≤ js.length := by
  unfold oneL; rw [List.length_map]; exact List.length_filter_le _ _
theorem flat_len {α β : Type} (f : α → List β) (m : Nat) : ∀ l : List α, (∀ a ∈ l, (f a).length ≤ m) → ((l.map f).flatten).length ≤ l.length * m
  | [], _ => Nat.zero_le _
  | a :: l, h => by
    rw [List.map_cons, List.flatten_cons, List.length_append, List.length_cons, Nat.succ_mul]
    have h1 := h a List.mem_cons_self
    have h2 := flat_len f m l fun b hb => h b (List.mem_cons_of_mem _ hb)
    omega
theorem rowL_len (sok : se.Ok) (rows : List Row) (ps : List (Option (List Int))) (dl : List (List (List Int))) (k : Nat) : (rowL se rows ps dl k).length ≤ 25 := by
  have n2 := sok.n2
  unfold rowL
  cases rows[k]? with
  | none => exact Nat.zero_le _
  | some r =>
    have := flat_len (fun i => oneL se ps dl k r i (ptsN se.n)) 5 (ptsN se.n) fun i _ => Nat.le_trans (oneL_len ..) (by rw [ptsN_len]; exact n2)
    rw [ptsN_len] at this
    exact Nat.le_trans this (Nat.mul_le_mul_right 5 n2)
theorem flat_snoc {α β : Type} (f : α → List β) (l : List α) (a : α) : ((l ++ [a]).map f).flatten = (l.map f).flatten ++ f a := by
  rw [List.map_append, List.flatten_append]; simp
theorem deal_at {se : Se} {rows : List Row} {ins coins : List Int} : ∀ n, n ≤ rows.length → ∀ k r, k < n → rows[k]? = some r → (runTo se rows ins coins n).2[k]? = some (dealR se ins coins (inN (rows.take k)) (coinsN se (rows.take k)) (runTo se rows ins coins k).1 r)
  | 0, _, k, r, hk, _ => absurd hk (by omega)
  | n + 1, hn, k, r, hk, h => by
    have hr : rows[n]? = some rows[n] := List.getElem?_eq_getElem (show n < rows.length by omega)
    obtain ⟨l1, l2⟩ := runTo_len (se := se) (rows := rows) (ins := ins) (coins := coins) n (by omega)
    rw [runTo_succ hr]
    by_cases e : k < n
    · rw [List.getElem?_append_left (by omega)]; exact deal_at n (by omega) k r e h
    · have e : k = n := by omega
      subst e
      rw [hr] at h
      cases h
      rw [List.getElem?_append_right (by omega), l2, Nat.sub_self]; rfl
section
variable {P : Program} {w : World} {K : PySem.W.Frag} {mg : Str → Option Value} {base : Heap} {C : Addr} {g : Addr} {fd : FuncData}
theorem polD_at {ps : List (Option (List Int))} {k : Nat} (h : k < ps.length) : atI (ps.map polD) ((k : Nat) : Int) = some (polD (ps.getD k none)) := by
  apply atI_nat
  rw [List.getElem?_map, List.getElem?_eq_getElem h, List.getD_eq_getElem?_getD, List.getElem?_eq_getElem h]; rfl
theorem dlD_at {dl : List (List (List Int))} {k : Nat} (h : k < dl.length) : atI (dl.map rowsD) ((k : Nat) : Int) = some (rowsD (dlAt dl k)) := by
  apply atI_nat
  unfold dlAt
  rw [List.getElem?_map, List.getElem?_eq_getElem h, List.getD_eq_getElem?_getD, List.getElem?_eq_getElem h]; rfl
abbrev s__law_letters : Stmt := top 77
abbrev N__law_letters : List Str := ["_law_setting", "_law_program_here", "_law_inputs_here", "_law_coins_here", "_law_polys", "_law_dealt", "_law_found", "_law_k", "_law_row", "_law_i", "_law_j", "_law_poly", "_law_at_here"]
theorem sc__law_letters : FnScope N__law_letters ["_law_setting", "_law_program_here", "_law_inputs_here", "_law_coins_here"] (defScope s__law_letters) := ⟨rfl, rfl, rfl, by decide +kernel, rfl, by decide +kernel, by decide +kernel⟩
theorem ok_law_letters (B : Bt mg) (c_law_run : Glo P w K mg base "_law_run" 4 ["_law_setting", "_law_program_here", "_law_inputs_here", "_law_coins_here"] (spN K C 4 S_lrun)) (c_law_sends : Glo P w K mg base "_law_sends" 1 ["_law_program_here", "_law_k", "_law_i", "_law_j"] (spD K C 4 S_lsends)) (c_law_at : Glo P w K mg base "_law_at" 1 ["_law_p", "_law_poly", "_law_x"] (spD K C 3 S_lat))
    (F : Fun K "_law_letters" "_law_letters" s__law_letters g fd) : FnOk P w K mg base CX0 5 g fd ["_law_setting", "_law_program_here", "_law_inputs_here", "_law_coins_here"] (spN K C 4 S_lletters) := by
  refine fn_N F sc__law_letters rfl fun cdv A outer s H E G ds d hr hS => ?_
  obtain ⟨se, rows, ins, coins, rfl, sok, po, io, rfl⟩ := hS
  have nd := sc__law_letters.nd
  have n1 := sok.n1; have n2 := sok.n2; have p2 := sok.p2; have p3 := sok.p3; have tn := sok.tn
  have hz := po.rws.1
  have pg := pol_good sok po io rows.length (Nat.le_refl _)
  obtain ⟨l1, l2⟩ := runTo_len (se := se) (rows := rows) (ins := ins) (coins := coins) rows.length (Nat.le_refl _)
  have da := deal_at (se := se) (rows := rows) (ins := ins) (coins := coins) rows.length (Nat.le_refl _)
  refine s_seq (s_unpackL (is := [4, 5]) (ds := runDs se rows ins coins) rfl (x_callN c_law_run hr (a_cons (x_of (pv 0) rfl) (a_cons (x_of (pv 1) rfl) (a_cons (x_of (pv 2) rfl) (a_cons (x_of (pv 3) rfl) a_nil)))) ⟨rfl, se, rows, ins, coins, rfl, sok, po, io, rfl⟩) (pgs_cons (pg_name (i := 4) nd rfl (.inl rfl)) (pgs_cons (pg_name (i := 5) nd rfl (.inl rfl)) pgs_nil)) (all_lt rfl) rfl rfl) ?_
  unfold llM
  have hdk : ∀ k r, rows[k]? = some r → (r.tag = 4 ∨ r.tag = 8) → (dlAt (runTo se rows ins coins rows.length).2 k).length = se.n := fun k r h ht => by
    unfold dlAt
    rw [List.getD_eq_getElem?_getD, da k r (List.getElem?_eq_some_iff.mp h).1 h]
    exact deal_len 0 _ _ _ ht
  generalize hps : runTo se rows ins coins rows.length = RT at *
  obtain ⟨ps, dl⟩ := RT
  simp only at *
  have e : rngD 1 (((se.n : Nat) : Int) + 1 - 1).toNat = (ptsN se.n).map fun (i : Nat) => D.int ((i : Nat) : Int) := by rw [rng_n, rng_ptsN]
  refine s_seq (s_setN (i := 6) (δ1 := [.dat se.d, .dat (progD rows), .dat (.tup (inz ins)), .dat (.tup (inz coins)), .dat (.lst (ps.map polD)), .dat (.lst (dl.map rowsD)), .own [], .no, .no, .no, .no, .no, .no]) nd rfl (.inl rfl) (lt_ rfl) (x_lst a_nil) (by unfold runDs; rw [hps]; rfl)) ?_
  refine s_cons (N1 := fun e => ∃ v7 v8 v9 v10 v11 v12, e = [.dat se.d, .dat (progD rows), .dat (.tup (inz ins)), .dat (.tup (inz coins)), .dat (.lst (ps.map polD)), .dat (.lst (dl.map rowsD)), .own ((letsL se rows ps dl rows.length).map ld), v7, v8, v9, v10, v11, v12])
    (s_forr (lo := 0) (n := rows.length) (j := 7) (fun k e => ∃ v7 v8 v9 v10 v11 v12, e = [.dat se.d, .dat (progD rows), .dat (.tup (inz ins)), .dat (.tup (inz coins)), .dat (.lst (ps.map polD)), .dat (.lst (dl.map rowsD)), .own ((letsL se rows ps dl k).map ld), v7, v8, v9, v10, v11, v12]) PassesOwn.never rfl (i_rng1 (by omega) rfl B.range (x_eq (x_len rfl B.len (o_tup (x_ixt (x_of (pv 1) rfl) x_int rfl))) (by rw [List.length_map]))) (pg_name (i := 7) nd rfl (.inl rfl)) ?_ ?_ ?_ ?_) ?_
  · exact ⟨.no, .no, .no, .no, .no, .no, rfl⟩
  · rintro i _ ⟨v7, v8, v9, v10, v11, v12, rfl⟩; exact lt_ rfl
  · rintro k _ hkl ⟨v7, v8, v9, v10, v11, v12, rfl⟩
    rw [Int.zero_add]
    have hk : rows[k]? = some rows[k] := List.getElem?_eq_getElem hkl
    generalize hr' : rows[k] = r at hk
    have rok := po.rws.2 k r hk
    have ll1 : (letsL se rows ps dl k).length ≤ 60 * 25 := by
      have := flat_len (rowL se rows ps dl) 25 (List.range k) fun a _ => rowL_len sok rows ps dl a
      rw [List.length_range] at this
      exact Nat.le_trans this (Nat.mul_le_mul_right 25 (by omega))
    have wat : ∀ a ∈ r.named, atI (ps.map polD) ((a : Nat) : Int) = some (.tup (inz (plAt ps a))) := fun a ha => by
      obtain ⟨r', h1, h2⟩ := po.wire _ r hk a ha
      obtain ⟨l, h3, _⟩ := pg a r' (List.getElem?_eq_some_iff.mp h1).1 h1 h2
      exact pol_at h3
    refine s_seq (s_set (i := 8) (d := r.d) nd rfl (.inl rfl) (lt_ rfl) (x_ixt (x_ixt (x_of (pv 1) rfl) x_int rfl) (x_of (pv 7) rfl) (rows_at hk)) rfl) ?_
    have hrow : rowL se rows ps dl k = ((ptsN se.n).map fun i => oneL se ps dl k r i (ptsN se.n)).flatten := by unfold rowL; rw [hk]
    refine s_one (s_weak (N := fun e => ∃ v9 v10 v11 v12, e = [.dat se.d, .dat (progD rows), .dat (.tup (inz ins)), .dat (.tup (inz coins)), .dat (.lst (ps.map polD)), .dat (.lst (dl.map rowsD)), .own ((letsL se rows ps dl k ++ ((ptsN se.n).map fun i => oneL se ps dl k r i (ptsN se.n)).flatten).map ld), .dat (.int (k : Int)), .dat r.d, v9, v10, v11, v12])
      (s_forl (l := ptsN se.n) (h := fun (i : Nat) => D.int ((i : Nat) : Int)) (j := 9) (fun pre e => ∃ v9 v10 v11 v12, e = [.dat se.d, .dat (progD rows), .dat (.tup (inz ins)), .dat (.tup (inz coins)), .dat (.lst (ps.map polD)), .dat (.lst (dl.map rowsD)), .own ((letsL se rows ps dl k ++ (pre.map fun i => oneL se ps dl k r i (ptsN se.n)).flatten).map ld), .dat (.int (k : Int)), .dat r.d, v9, v10, v11, v12]) PassesOwn.never rfl (by rw [← e]; exact i_rng2 (by omega) (by omega) rfl B.range x_int (x_add (x_ixt (x_of (pv 0) rfl) x_int rfl) x_int)) (pg_name (i := 9) nd rfl (.inl rfl)) ?_ ?_ ?_ ?_) ?_)
    · exact ⟨v9, v10, v11, v12, by rw [List.map_nil, List.flatten_nil, List.append_nil]; rfl⟩
    · rintro i _ ⟨v9, v10, v11, v12, rfl⟩; exact lt_ rfl
    · rintro pre i post _ hl ⟨v9, v10, v11, v12, rfl⟩
      have hi : i ∈ ptsN se.n := by rw [hl]; simp
      obtain ⟨i1, i2⟩ := mem_ptsN.mp hi
      have hpl : pre.length ≤ 5 := by
        have := congrArg List.length hl
        rw [ptsN_len, List.length_append] at this; omega
      have ll2 : ((pre.map fun i => oneL se ps dl k r i (ptsN se.n)).flatten).length ≤ 25 := by
        have := flat_len (fun i => oneL se ps dl k r i (ptsN se.n)) 5 pre fun i _ => Nat.le_trans (oneL_len ..) (by rw [ptsN_len]; exact n2)
        exact Nat.le_trans this (Nat.mul_le_mul_right 5 hpl)
      refine s_one (s_weak (N := fun e => ∃ v10 v11 v12, e = [.dat se.d, .dat (progD rows), .dat (.tup (inz ins)), .dat (.tup (inz coins)), .dat (.lst (ps.map polD)), .dat (.lst (dl.map rowsD)), .own ((letsL se rows ps dl k ++ (pre.map fun i => oneL se ps dl k r i (ptsN se.n)).flatten ++ oneL se ps dl k r i (ptsN se.n)).map ld), .dat (.int (k : Int)), .dat r.d, .dat (.int (i : Int)), v10, v11, v12])
        (s_forl (l := ptsN se.n) (h := fun (i : Nat) => D.int ((i : Nat) : Int)) (j := 10) (fun prj e => ∃ v10 v11 v12, e = [.dat se.d, .dat (progD rows), .dat (.tup (inz ins)), .dat (.tup (inz coins)), .dat (.lst (ps.map polD)), .dat (.lst (dl.map rowsD)), .own ((letsL se rows ps dl k ++ (pre.map fun i => oneL se ps dl k r i (ptsN se.n)).flatten ++ oneL se ps dl k r i prj).map ld), .dat (.int (k : Int)), .dat r.d, .dat (.int (i : Int)), v10, v11, v12]) PassesOwn.never rfl (by rw [← e]; exact i_rng2 (by omega) (by omega) rfl B.range x_int (x_add (x_ixt (x_of (pv 0) rfl) x_int rfl) x_int)) (pg_name (i := 10) nd rfl (.inl rfl)) ?_ ?_ ?_ ?_) ?_)
      · exact ⟨v10, v11, v12, by show _ = [_, _, _, _, _, _, Sl.own (List.map ld (_ ++ _ ++ [])), _, _, _, _, _, _]; rw [List.append_nil]; rfl⟩
      · rintro i _ ⟨v10, v11, v12, rfl⟩; exact lt_ rfl
      · rintro prj j postj _ hlj ⟨v10, v11, v12, rfl⟩
        have hj : j ∈ ptsN se.n := by rw [hlj]; simp
        obtain ⟨j1, j2⟩ := mem_ptsN.mp hj
        have hpj : prj.length ≤ 5 := by
          have := congrArg List.length hlj
          rw [ptsN_len, List.length_append] at this; omega
        have ll3 := oneL_len se ps dl k r i prj
        have hone : oneL se ps dl k r i (prj ++ [j]) = oneL se ps dl k r i prj ++ (if sendsM r i j then [(j, (k, i, numL2 se ps dl k r i j))] else []) := by
          unfold oneL
          rw [filter_snoc, List.map_append]
          split <;> rfl
        refine s_one (s_if (t_val (x_call c_law_sends (hr.mono (by decide)) (a_cons (x_of (pv 1) rfl) (a_cons (x_of (pv 7) rfl) (a_cons (x_of (pv 9) rfl) (a_cons (x_of (pv 10) rfl) a_nil)))) ⟨rfl, rows, k, i, j, r, rfl, hk, rfl⟩)) (fun hs => ?_) (fun hs => ?_))
        · refine s_seq (s_set (i := 11) (d := polD (ps.getD k none)) nd rfl (.inl rfl) (lt_ rfl) (x_ix (o_l (o_lst (x_of (pv 4) rfl))) (x_of (pv 7) rfl) (polD_at (by omega))) rfl) ?_
          refine s_seq (s_set (i := 12) nd rfl (.inl rfl) (lt_ rfl) (x_of (pv 10) rfl) rfl) ?_
          by_cases h48 : r.tag = 4 ∨ r.tag = 8
          · have hnum : numL2 se ps dl k r i j = valueAt se.p ((dlAt dl k).getD (i - 1) []) ((j : Nat) : Int) := by
              cases r <;> first | rfl | (simp [Row.tag] at h48; done)
            refine s_seq (s_ifT (t_is (t_in (x_ixt (x_of (pv 8) rfl) x_int (at0 _ _)) (o_tup (x_tup (a_cons x_str (a_cons x_str a_nil))))) ((k_in48 _).trans (decide_eq_true h48))) (s_one (s_set (i := 11) (d := .tup (inz ((dlAt dl k).getD (i - 1) []))) nd rfl (.inl rfl) (lt_ rfl) (x_ix (o_l (o_lst (x_ix (o_l (o_lst (x_of (pv 5) rfl))) (x_of (pv 7) rfl) (dlD_at (by omega))))) (x_eq (x_sub (x_of (pv 9) rfl) x_int) (d' := .int ((i - 1 : Nat) : Int)) (by congr 1; omega)) (rowsD_at (by rw [hdk k r hk h48]; omega))) rfl))) ?_
            refine s_seq (s_ifF (t_is (t_cmp op_eq rd_eqS (x_ixt (x_of (pv 8) rfl) x_int (at0 _ _)) x_str (nomark _)) ((k_is6 _).trans (decide_eq_false (by rcases h48 with h | h <;> rw [h] <;> decide)))) (s_nil rfl)) ?_
            refine s_one (s_weak (s_app (d := ld (j, (k, i, numL2 se ps dl k r i j))) (pv 6) rfl (lt_ rfl) (by rw [List.length_map, List.length_append, List.length_append]; omega) (x_eq (x_tup (a_cons x_str (a_cons (x_of (pv 7) rfl) (a_cons (x_of (pv 9) rfl) (a_cons (x_of (pv 10) rfl) (a_cons (x_call c_law_at (hr.mono (by decide)) (a_cons (x_ixt (x_of (pv 0) rfl) x_int rfl) (a_cons (x_of (pv 11) rfl) (a_cons (x_of (pv 12) rfl) a_nil))) ⟨rfl, se.p, _, _, rfl, ⟨p2, by omega⟩, by omega, rfl⟩) a_nil)))))) (by rw [hnum]; rfl)) rfl) ?_)
            rintro _ rfl
            refine ⟨.dat (.int (j : Int)), .dat (.tup (inz ((dlAt dl k).getD (i - 1) []))), .dat (.int (j : Int)), ?_⟩
            rw [hone, hs, if_pos rfl, ← List.append_assoc]; simp only [List.map_append]; rfl
          refine s_seq (s_ifF (t_is (t_in (x_ixt (x_of (pv 8) rfl) x_int (at0 _ _)) (o_tup (x_tup (a_cons x_str (a_cons x_str a_nil))))) ((k_in48 _).trans (decide_eq_false h48))) (s_nil rfl)) ?_
          by_cases h6 : r.tag = 6
          · cases r with
            | out a m =>
              have hnum : numL2 se ps dl k (.out a m) i j = valueAt se.p (plAt ps a) ((i : Nat) : Int) := rfl
              refine s_seq (s_ifT (t_is (t_cmp op_eq rd_eqS (x_ixt (x_of (pv 8) rfl) x_int (at0 _ _)) x_str (nomark _)) ((k_is6 _).trans rfl)) (s_seq (s_set (i := 11) (d := .tup (inz (plAt ps a))) nd rfl (.inl rfl) (lt_ rfl) (x_ix (o_l (o_lst (x_of (pv 4) rfl))) (x_ixt (x_of (pv 8) rfl) x_int rfl) (wat a List.mem_cons_self)) rfl) (s_one (s_set (i := 12) nd rfl (.inl rfl) (lt_ rfl) (x_of (pv 9) rfl) rfl)))) ?_
              refine s_one (s_weak (s_app (d := ld (j, (k, i, numL2 se ps dl k (.out a m) i j))) (pv 6) rfl (lt_ rfl) (by rw [List.length_map, List.length_append, List.length_append]; omega) (x_eq (x_tup (a_cons x_str (a_cons (x_of (pv 7) rfl) (a_cons (x_of (pv 9) rfl) (a_cons (x_of (pv 10) rfl) (a_cons (x_call c_law_at (hr.mono (by decide)) (a_cons (x_ixt (x_of (pv 0) rfl) x_int rfl) (a_cons (x_of (pv 11) rfl) (a_cons (x_of (pv 12) rfl) a_nil))) ⟨rfl, se.p, _, _, rfl, ⟨p2, by omega⟩, by omega, rfl⟩) a_nil)))))) (by rw [hnum]; rfl)) rfl) ?_)
              rintro _ rfl
              refine ⟨.dat (.int (j : Int)), .dat (.tup (inz (plAt ps a))), .dat (.int (i : Int)), ?_⟩
              rw [hone, hs, if_pos rfl, ← List.append_assoc]; simp only [List.map_append]; rfl
            | _ => exact absurd h6 (by simp [Row.tag])
          refine s_seq (s_ifF (t_is (t_cmp op_eq rd_eqS (x_ixt (x_of (pv 8) rfl) x_int (at0 _ _)) x_str (nomark _)) ((k_is6 _).trans (decide_eq_false h6))) (s_nil rfl)) ?_
          have h7 : ¬ r.tag = 7 := fun h => by
            cases r <;> first | (simp [Row.tag] at h; done) | skip
            unfold sendsM at hs
            split at hs <;> cases hs
          obtain ⟨pl, hp1, _⟩ := pg k r hkl hk (fun h => h.elim h6 h7)
          have hpk : polD (ps.getD k none) = .tup (inz (plAt ps k)) := by
            unfold plAt
            rw [List.getD_eq_getElem?_getD, hp1]; rfl
          have hnum : numL2 se ps dl k r i j = valueAt se.p (plAt ps k) ((j : Nat) : Int) := by
            cases r <;> first | rfl | (exact absurd (.inl rfl) h48) | (exact absurd (.inr rfl) h48) | (exact absurd rfl h6)
          rw [hpk]
          refine s_one (s_weak (s_app (d := ld (j, (k, i, numL2 se ps dl k r i j))) (pv 6) rfl (lt_ rfl) (by rw [List.length_map, List.length_append, List.length_append]; omega) (x_eq (x_tup (a_cons x_str (a_cons (x_of (pv 7) rfl) (a_cons (x_of (pv 9) rfl) (a_cons (x_of (pv 10) rfl) (a_cons (x_call c_law_at (hr.mono (by decide)) (a_cons (x_ixt (x_of (pv 0) rfl) x_int rfl) (a_cons (x_of (pv 11) rfl) (a_cons (x_of (pv 12) rfl) a_nil))) ⟨rfl, se.p, _, _, rfl, ⟨p2, by omega⟩, by omega, rfl⟩) a_nil)))))) (by rw [hnum]; rfl)) rfl) ?_)
          rintro _ rfl
          refine ⟨.dat (.int (j : Int)), .dat (.tup (inz (plAt ps k))), .dat (.int (j : Int)), ?_⟩
          rw [hone, hs, if_pos rfl, ← List.append_assoc]; simp only [List.map_append]; rfl
        · refine s_nil ⟨.dat (.int (j : Int)), v11, v12, ?_⟩
          rw [hone, hs, if_neg (by decide), List.append_nil]; rfl
      · rintro _ h; exact h
      · rintro _ ⟨v10, v11, v12, rfl⟩
        exact ⟨.dat (.int (i : Int)), v10, v11, v12, by rw [flat_snoc, List.append_assoc]⟩
    · rintro _ h; exact h
    · rintro _ ⟨v9, v10, v11, v12, rfl⟩
      refine ⟨.dat (.int (k : Int)), .dat r.d, v9, v10, v11, v12, ?_⟩
      unfold letsL
      rw [List.range_succ, flat_snoc, hrow]
  · rintro _ h; exact h
  · rintro _ ⟨v7, v8, v9, v10, v11, v12, rfl⟩
    exact s_one (s_retO (pv 6) rfl)
end
end Un
set_option maxHeartbeats 4000000
namespace Un
open PySem L2 TL
def sentM (se : Se) (poly : List Int) (so : List Nat) : D := .tup (so.map fun (o : Nat) => .int (valueAt se.p poly ((o : Nat) : Int)))
def viewR (se : Se) (rows : List Row) (ws : List (List Nat)) (ps : List (Option (List Int))) (dl : List (List (List Int))) (k : Nat) (r : Row) : D := match r with
  | .inp j => if j ∈ wkM rows ws k then .tup [.str "own", .int ((plAt ps k).getD 0 0), .tup (inz ((plAt ps k).drop 1))] else .tup [.str "sent", sentM se (plAt ps k) (wkM rows ws k)]
  | .prod _ _ => .tup (lseenM se.p (dlAt dl k) (wkM rows ws k))
  | .kept _ => .tup [.tup (lseenM se.p (dlAt dl k) (bothM rows ws k)), sentM se (plAt ps k) (wkM rows ws k)]
  | .out a j => if j ∈ wkM rows ws k then .tup ((ptsN se.n).map fun (i : Nat) => .int (valueAt se.p (plAt ps a) ((i : Nat) : Int))) else .tup []
  | _ => .tup []
def viewM (se : Se) (rows : List Row) (ws : List (List Nat)) (ins coins : List Int) (k : Nat) : D := ((rows[k]?).map (viewR se rows ws (runTo se rows ins coins rows.length).1 (runTo se rows ins coins rows.length).2 k)).getD (.tup [])
def S_lview (ds : List D) (d : D) : Prop := ∃ (se : Se) (rows : List Row) (ins coins : List Int) (ws : List (List Nat)), ds = [se.d, progD rows, .tup (inz ins), .tup (inz coins), watD ws] ∧ se.Ok ∧ ProgOk se rows ∧ InOk se rows ins coins ∧ WsOk se rows ws (fun i => i ≤ se.n) ∧ d = .tup ((List.range rows.length).map (viewM se rows ws ins coins))
section
variable {P : Program} {w : World} {K : PySem.W.Frag} {mg : Str → Option Value} {base : Heap} {C : Addr} {g : Addr} {fd : FuncData}
abbrev s__law_view : Stmt := top 75
abbrev N__law_view : List Str := ["_law_setting", "_law_program_here", "_law_inputs_here", "_law_coins_here", "_law_watchers_here", "_law_polys", "_law_dealt", "_law_epochs_here", "_law_found", "_law_k", "_law_row", "_law_some", "_law_item", "_law_both", "_law_party"]
theorem sc__law_view : FnScope N__law_view ["_law_setting", "_law_program_here", "_law_inputs_here", "_law_coins_here", "_law_watchers_here"] (defScope s__law_view) := ⟨rfl, rfl, rfl, by decide +kernel, rfl, by decide +kernel, by decide +kernel⟩
theorem ok_law_view (B : Bt mg) (c_law_run : Glo P w K mg base "_law_run" 4 ["_law_setting", "_law_program_here", "_law_inputs_here", "_law_coins_here"] (spN K C 4 S_lrun)) (c_law_epochs : Glo P w K mg base "_law_epochs" 1 ["_law_program_here"] (spN K C 1 S_lepochs)) (c_law_at : Glo P w K mg base "_law_at" 1 ["_law_p", "_law_poly", "_law_x"] (spD K C 3 S_lat))
    (c_law_seen : Glo P w K mg base "_law_seen" 2 ["_law_setting", "_law_many", "_law_some"] (spD K C 3 S_lseen)) (c_law_shares : Glo P w K mg base "_law_shares" 2 ["_law_setting", "_law_poly"] (spD K C 2 S_lshares))
    (F : Fun K "_law_view" "_law_view" s__law_view g fd) : FnOk P w K mg base CX0 5 g fd ["_law_setting", "_law_program_here", "_law_inputs_here", "_law_coins_here", "_law_watchers_here"] (spD K C 5 S_lview) := by
  refine fn_D F sc__law_view rfl fun cdv A outer s H E G ds d hr hS => ?_
  obtain ⟨se, rows, ins, coins, ws, rfl, sok, po, io, wok, rfl⟩ := hS
  have nd := sc__law_view.nd
  have n1 := sok.n1; have n2 := sok.n2; have p2 := sok.p2; have p3 := sok.p3; have tn := sok.tn
  have hz := po.rws.1
  have pg := pol_good sok po io rows.length (Nat.le_refl _)
  obtain ⟨l1, l2⟩ := runTo_len (se := se) (rows := rows) (ins := ins) (coins := coins) rows.length (Nat.le_refl _)
  have da := deal_at (se := se) (rows := rows) (ins := ins) (coins := coins) rows.length (Nat.le_refl _)
  have hdk : ∀ k r, rows[k]? = some r → (r.tag = 4 ∨ r.tag = 8) → (dlAt (runTo se rows ins coins rows.length).2 k).length = se.n := fun k r h ht => by
    unfold dlAt
    rw [List.getD_eq_getElem?_getD, da k r (List.getElem?_eq_some_iff.mp h).1 h]
    exact deal_len 0 _ _ _ ht
  have hitem : ∀ k r, rows[k]? = some r → viewM se rows ws ins coins k = viewR se rows ws (runTo se rows ins coins rows.length).1 (runTo se rows ins coins rows.length).2 k r := fun k r h => by unfold viewM; rw [h]; rfl
  let δ0 : List Sl := [.dat se.d, .dat (progD rows), .dat (.tup (inz ins)), .dat (.tup (inz coins)), .dat (watD ws), .dat (.lst ((runTo se rows ins coins rows.length).1.map polD)), .dat (.lst ((runTo se rows ins coins rows.length).2.map rowsD)), .no, .no, .no, .no, .no, .no, .no, .no]
  refine s_seq (s_unpackL (is := [5, 6]) (ds := runDs se rows ins coins) (δ1 := δ0) rfl (x_callN c_law_run hr (a_cons (x_of (pv 0) rfl) (a_cons (x_of (pv 1) rfl) (a_cons (x_of (pv 2) rfl) (a_cons (x_of (pv 3) rfl) a_nil)))) ⟨rfl, se, rows, ins, coins, rfl, sok, po, io, rfl⟩) (pgs_cons (pg_name (i := 5) nd rfl (.inr rfl)) (pgs_cons (pg_name (i := 6) nd rfl (.inl rfl)) pgs_nil)) (all_lt rfl) rfl rfl) ?_
  show PSs _ _ (tX _ _ [.dat se.d, .dat (progD rows), .dat (.tup (inz ins)), .dat (.tup (inz coins)), .dat (watD ws), .dat (.lst ((runTo se rows ins coins rows.length).1.map polD)), .dat (.lst ((runTo se rows ins coins rows.length).2.map rowsD)), .no, .no, .no, .no, .no, .no, .no, .no] _ _)
  refine s_seq (s_set (i := 7) (d := .lst ((List.range rows.length).map fun k => .int (epochM rows k : Nat))) nd rfl (.inr rfl) (lt_ rfl) (x_frz (x_callN c_law_epochs (hr.mono (by decide)) (a_cons (x_of (pv 1) rfl) a_nil) ⟨rfl, rows, rfl, by omega, rfl⟩)) rfl) ?_
  refine s_seq (s_setN (i := 8) nd rfl (.inl rfl) (lt_ rfl) (x_lst a_nil) rfl) ?_
  generalize hps : runTo se rows ins coins rows.length = RT at *
  obtain ⟨ps, dl⟩ := RT
  simp only at *
  let V : Nat → D := viewM se rows ws ins coins
  refine s_cons (N1 := fun e => ∃ v9 v10 v11 v12 v13 v14, e = [.dat se.d, .dat (progD rows), .dat (.tup (inz ins)), .dat (.tup (inz coins)), .dat (watD ws), .dat (.lst (ps.map polD)), .dat (.lst (dl.map rowsD)), .dat (.lst ((List.range rows.length).map fun k => .int (epochM rows k : Nat))), .own ((List.range rows.length).map V), v9, v10, v11, v12, v13, v14])
    (s_forr (lo := 0) (n := rows.length) (j := 9) (fun k e => ∃ v9 v10 v11 v12 v13 v14, e = [.dat se.d, .dat (progD rows), .dat (.tup (inz ins)), .dat (.tup (inz coins)), .dat (watD ws), .dat (.lst (ps.map polD)), .dat (.lst (dl.map rowsD)), .dat (.lst ((List.range rows.length).map fun k => .int (epochM rows k : Nat))), .own ((List.range k).map V), v9, v10, v11, v12, v13, v14]) PassesOwn.never rfl (i_rng1 (by omega) rfl B.range (x_eq (x_len rfl B.len (o_tup (x_ixt (x_of (pv 1) rfl) x_int rfl))) (by rw [List.length_map]))) (pg_name (i := 9) nd rfl (.inr rfl)) ?_ ?_ ?_ ?_) ?_
  · exact ⟨.no, .no, .no, .no, .no, .no, rfl⟩
  · rintro i _ ⟨v9, v10, v11, v12, v13, v14, rfl⟩; exact lt_ rfl
  · rintro k _ hkl ⟨v9, v10, v11, v12, v13, v14, rfl⟩
    rw [Int.zero_add]
    have hk : rows[k]? = some rows[k] := List.getElem?_eq_getElem hkl
    generalize hr' : rows[k] = r at hk
    have he := wok.ep k hkl
    have rok := po.rws.2 k r hk
    have eat : atI ((List.range rows.length).map fun k => D.int ((epochM rows k : Nat) : Int)) ((k : Nat) : Int) = some (.int (epochM rows k : Nat)) := by
      apply atI_nat
      rw [List.getElem?_map, List.getElem?_range hkl]; rfl
    have wl : (wkM rows ws k).length ≤ 100 := by
      unfold wkM
      rw [List.getD_eq_getElem?_getD, List.getElem?_eq_getElem he]
      exact wok.len _ (List.getElem_mem he)
    have wmem : ∀ i ∈ wkM rows ws k, i ≤ 100 := fun i hi => by
      unfold wkM at hi
      rw [List.getD_eq_getElem?_getD, List.getElem?_eq_getElem he] at hi
      have := wok.mem _ (List.getElem_mem he) i hi
      omega
    have bmem : ∀ i ∈ bothM rows ws k, i ≤ 100 := fun i hi => wmem i (List.mem_filter.mp hi).1
    have bl : (bothM rows ws k).length ≤ 100 := Nat.le_trans (List.length_filter_le _ _) wl
    have wat : ∀ a ∈ r.named, atI (ps.map polD) ((a : Nat) : Int) = some (.tup (inz (plAt ps a))) := fun a ha => by
      obtain ⟨r', h1, h2⟩ := po.wire _ r hk a ha
      obtain ⟨l, h3, _⟩ := pg a r' (List.getElem?_eq_some_iff.mp h1).1 h1 h2
      exact pol_at h3
    have kat : hasP r → atI (ps.map polD) ((k : Nat) : Int) = some (.tup (inz (plAt ps k))) ∧ Good se (plAt ps k) := fun hp => by
      obtain ⟨l, h3, h4⟩ := pg k r hkl hk hp
      refine ⟨pol_at h3, ?_⟩
      unfold plAt
      rw [List.getD_eq_getElem?_getD, h3]; exact h4
    refine s_seq (s_set (i := 10) (d := r.d) nd rfl (.inl rfl) (lt_ rfl) (x_ixt (x_ixt (x_of (pv 1) rfl) x_int rfl) (x_of (pv 9) rfl) (rows_at hk)) rfl) ?_
    refine s_seq (s_set (i := 11) (d := .tup (natz (wkM rows ws k))) nd rfl (.inl rfl) (lt_ rfl) (x_ixt (x_of (pv 4) rfl) (x_ix (o_l (o_lst (x_of (pv 7) rfl))) (x_of (pv 9) rfl) eat) (ws_at he)) rfl) ?_
    refine s_seq (s_set (i := 12) (d := .tup []) nd rfl (.inl rfl) (lt_ rfl) (x_tup a_nil) rfl) ?_
    have sent : ∀ {X : Cx} {δ : List Sl}, True := fun {_ _} => True.intro
    refine s_cons (N1 := fun e => ∃ v13 v14, e = [.dat se.d, .dat (progD rows), .dat (.tup (inz ins)), .dat (.tup (inz coins)), .dat (watD ws), .dat (.lst (ps.map polD)), .dat (.lst (dl.map rowsD)), .dat (.lst ((List.range rows.length).map fun k => .int (epochM rows k : Nat))), .own ((List.range k).map V), .dat (.int (k : Int)), .dat r.d, .dat (.tup (natz (wkM rows ws k))), .dat (viewR se rows ws ps dl k r), v13, v14]) ?_ ?_
    · have i0 := k_is0 r.tag
      cases r with
      | inp j =>
        obtain ⟨ka, kg⟩ := kat (fun h => by rcases h with h | h <;> simp [Row.tag] at h)
        refine s_if (t_is (PW.pt (w_and (t_is (t_cmp op_eq rd_eqS (x_ixt (x_of (pv 10) rfl) x_int (at0 _ _)) x_str (nomark _)) ((k_is0 _).trans rfl)) fun _ => (w_and1 (t_is (t_in (x_ixt (x_of (pv 10) rfl) x_int rfl) (o_tup (x_of (pv 11) rfl)) rfl (nat_flat _)) (nat_in j _))))) (Bool.true_and _)) (fun h => ?_) (fun h => ?_)
        · refine s_one (s_weak (s_set (i := 12) (d := viewR se rows ws ps dl k (.inp j)) nd rfl (.inl rfl) (lt_ rfl) (x_eq (x_tup (a_cons x_str (a_cons (x_ixt (x_ix (o_l (o_lst (x_of (pv 5) rfl))) (x_of (pv 9) rfl) ka) x_int (inz_at (i := 0) (by rw [kg.1]; omega))) (a_cons (x_eq (x_sl (x_ix (o_l (o_lst (x_of (pv 5) rfl))) (x_of (pv 9) rfl) ka) (p_int x_int) p_no) (congrArg D.tup (inz_drop1 _))) a_nil)))) (by show _ = (if j ∈ wkM rows ws k then _ else _); rw [if_pos (of_decide_eq_true h)])) rfl) ?_)
          rintro _ rfl
          exact ⟨v13, v14, rfl⟩
        · refine s_one (s_ifT (t_is (t_cmp op_eq rd_eqS (x_ixt (x_of (pv 10) rfl) x_int (at0 _ _)) x_str (nomark _)) ((k_is0 _).trans rfl)) (s_one (s_weak (s_set (i := 12) (d := viewR se rows ws ps dl k (.inp j)) nd rfl (.inl rfl) (lt_ rfl) (x_eq (x_tup (a_cons x_str (a_cons (x_tuple rfl B.tuple (o_new (x_lca (l := wkM rows ws k) (h := fun (i : Nat) => D.int ((i : Nat) : Int)) (fun (o : Nat) => D.int (valueAt se.p (plAt ps k) ((o : Nat) : Int))) (j := 14) rfl nd (lt_ rfl) (by omega) (i_s (i_tup (x_of (pv 11) rfl))) (blkOk_by (N := N__law_view) (sc := defScope s__law_view) (by decide +kernel)) (fun _ _ _ _ _ => pg_name (i := 14) nd rfl (.inl rfl))
            (fun o ho _ _ _ _ _ => (x_call c_law_at (hr.mono (by decide)) (a_cons (x_ixt (x_of (pv 0) rfl) x_int rfl) (a_cons (x_ix (o_l (o_lst (x_of (pv 5) rfl))) (x_of (pv 9) rfl) ka) (a_cons (x_of (pv 14) rfl) a_nil))) ⟨rfl, se.p, _, _, rfl, ⟨p2, by omega⟩, by have := wmem o ho; omega, rfl⟩))))) a_nil))) (by show _ = (if j ∈ wkM rows ws k then _ else _); rw [if_neg (of_decide_eq_false h)]; rfl)) rfl) ?_)))
          rintro _ rfl
          exact ⟨v13, v14, rfl⟩
      | prod a b =>
        refine s_ifF (t_is (PW.pt (w_and (k := false) (l := false) (t_is (t_cmp op_eq rd_eqS (x_ixt (x_of (pv 10) rfl) x_int (at0 _ _)) x_str (nomark _)) ((k_is0 _).trans rfl)) fun h => by cases h)) rfl) (s_one ?_)
        refine s_ifF (t_is (t_cmp op_eq rd_eqS (x_ixt (x_of (pv 10) rfl) x_int (at0 _ _)) x_str (nomark _)) ((k_is0 _).trans rfl)) (s_one ?_)
        refine s_ifT (t_is (t_cmp op_eq rd_eqS (x_ixt (x_of (pv 10) rfl) x_int (at0 _ _)) x_str (nomark _)) ((k_is4 _).trans rfl)) ?_
        refine s_one (s_weak (s_set (i := 12) (d := viewR se rows ws ps dl k (.prod a b)) nd rfl (.inl rfl) (lt_ rfl) (x_call c_law_seen (hr.mono (by decide)) (a_cons (x_of (pv 0) rfl) (a_cons (x_ix (o_l (o_lst (x_of (pv 6) rfl))) (x_of (pv 9) rfl) (dlD_at (by omega))) (a_cons (x_of (pv 11) rfl) a_nil))) ⟨rfl, se, dlAt dl k, wkM rows ws k, rfl, sok, by rw [hdk k _ hk (.inl rfl)]; omega, wl, wmem, rfl⟩) rfl) ?_)
        rintro _ rfl
        exact ⟨v13, v14, rfl⟩
      | kept a =>
        obtain ⟨ka, kg⟩ := kat (fun h => by rcases h with h | h <;> simp [Row.tag] at h)
        refine s_ifF (t_is (PW.pt (w_and (k := false) (l := false) (t_is (t_cmp op_eq rd_eqS (x_ixt (x_of (pv 10) rfl) x_int (at0 _ _)) x_str (nomark _)) ((k_is0 _).trans rfl)) fun h => by cases h)) rfl) (s_one ?_)
        refine s_ifF (t_is (t_cmp op_eq rd_eqS (x_ixt (x_of (pv 10) rfl) x_int (at0 _ _)) x_str (nomark _)) ((k_is0 _).trans rfl)) (s_one ?_)
        refine s_ifF (t_is (t_cmp op_eq rd_eqS (x_ixt (x_of (pv 10) rfl) x_int (at0 _ _)) x_str (nomark _)) ((k_is4 _).trans rfl)) (s_one ?_)
        refine s_ifT (t_is (t_cmp op_eq rd_eqS (x_ixt (x_of (pv 10) rfl) x_int (at0 _ _)) x_str (nomark _)) ((k_is8 _).trans rfl)) ?_
        refine s_seq (s_set (i := 13) (d := .tup (natz (bothM rows ws k))) nd rfl (.inl rfl) (lt_ rfl) (x_tuple rfl B.tuple (o_new (x_lcm (l := wkM rows ws k) (h := fun (i : Nat) => D.int ((i : Nat) : Int)) (fun i => decide (i ∈ wsAt ws ((epochM rows k : Nat) - 1))) (fun (i : Nat) => D.int ((i : Nat) : Int)) (j := 14) rfl nd (lt_ rfl) (by omega) (i_s (i_tup (x_of (pv 11) rfl))) (blkOk_by (N := N__law_view) (sc := defScope s__law_view) (by decide +kernel)) (fun _ _ _ _ _ => pg_name (i := 14) nd rfl (.inl rfl))
          (fun i hi _ _ _ _ _ => ts_one (t_is (t_in (x_of (pv 14) rfl) (o_tup (x_ixt (x_of (pv 4) rfl) (x_sub (x_ix (o_l (o_lst (x_of (pv 7) rfl))) (x_of (pv 9) rfl) eat) x_int) (ws_at1 he))) rfl (nat_flat _)) (nat_in _ _)))
          (fun a ha hb _ _ _ _ _ => (x_of (pv 14) rfl))))) rfl) ?_
        refine s_one (s_weak (s_set (i := 12) (d := viewR se rows ws ps dl k (.kept a)) nd rfl (.inl rfl) (lt_ rfl) (x_tup (a_cons (x_call c_law_seen (hr.mono (by decide)) (a_cons (x_of (pv 0) rfl) (a_cons (x_ix (o_l (o_lst (x_of (pv 6) rfl))) (x_of (pv 9) rfl) (dlD_at (by omega))) (a_cons (x_of (pv 13) rfl) a_nil))) ⟨rfl, se, dlAt dl k, bothM rows ws k, rfl, sok, by rw [hdk k _ hk (.inr rfl)]; omega, bl, bmem, rfl⟩) (a_cons (x_tuple rfl B.tuple (o_new (x_lca (l := wkM rows ws k) (h := fun (i : Nat) => D.int ((i : Nat) : Int)) (fun (o : Nat) => D.int (valueAt se.p (plAt ps k) ((o : Nat) : Int))) (j := 14) rfl nd (lt_ rfl) (by omega) (i_s (i_tup (x_of (pv 11) rfl))) (blkOk_by (N := N__law_view) (sc := defScope s__law_view) (by decide +kernel)) (fun _ _ _ _ _ => pg_name (i := 14) nd rfl (.inl rfl))
          (fun o ho _ _ _ _ _ => (x_call c_law_at (hr.mono (by decide)) (a_cons (x_ixt (x_of (pv 0) rfl) x_int rfl) (a_cons (x_ix (o_l (o_lst (x_of (pv 5) rfl))) (x_of (pv 9) rfl) ka) (a_cons (x_of (pv 14) rfl) a_nil))) ⟨rfl, se.p, _, _, rfl, ⟨p2, by omega⟩, by have := wmem o ho; omega, rfl⟩))))) a_nil))) rfl) ?_)
        rintro _ rfl
        exact ⟨_, v14, rfl⟩
      | out a j =>
        refine s_ifF (t_is (PW.pt (w_and (k := false) (l := false) (t_is (t_cmp op_eq rd_eqS (x_ixt (x_of (pv 10) rfl) x_int (at0 _ _)) x_str (nomark _)) ((k_is0 _).trans rfl)) fun h => by cases h)) rfl) (s_one ?_)
        refine s_ifF (t_is (t_cmp op_eq rd_eqS (x_ixt (x_of (pv 10) rfl) x_int (at0 _ _)) x_str (nomark _)) ((k_is0 _).trans rfl)) (s_one ?_)
        refine s_ifF (t_is (t_cmp op_eq rd_eqS (x_ixt (x_of (pv 10) rfl) x_int (at0 _ _)) x_str (nomark _)) ((k_is4 _).trans rfl)) (s_one ?_)
        refine s_ifF (t_is (t_cmp op_eq rd_eqS (x_ixt (x_of (pv 10) rfl) x_int (at0 _ _)) x_str (nomark _)) ((k_is8 _).trans rfl)) (s_one ?_)
        refine s_if (t_is (PW.pt (w_and (t_is (t_cmp op_eq rd_eqS (x_ixt (x_of (pv 10) rfl) x_int (at0 _ _)) x_str (nomark _)) ((k_is6 _).trans rfl)) fun _ => (w_and1 (t_is (t_in (x_ixt (x_of (pv 10) rfl) x_int rfl) (o_tup (x_of (pv 11) rfl)) rfl (nat_flat _)) (nat_in j _))))) (Bool.true_and _)) (fun h => ?_) (fun h => ?_)
        · refine s_one (s_weak (s_set (i := 12) (d := viewR se rows ws ps dl k (.out a j)) nd rfl (.inl rfl) (lt_ rfl) (x_eq (x_call c_law_shares (hr.mono (by decide)) (a_cons (x_of (pv 0) rfl) (a_cons (x_ix (o_l (o_lst (x_of (pv 5) rfl))) (x_ixt (x_of (pv 10) rfl) x_int rfl) (wat a List.mem_cons_self)) a_nil)) ⟨rfl, se, _, rfl, sok, rfl⟩) (by show _ = (if j ∈ wkM rows ws k then _ else _); rw [if_pos (of_decide_eq_true h)])) rfl) ?_)
          rintro _ rfl
          exact ⟨v13, v14, rfl⟩
        · refine s_nil ⟨v13, v14, ?_⟩
          have e : viewR se rows ws ps dl k (.out a j) = .tup [] := by show (if j ∈ wkM rows ws k then _ else _) = _; rw [if_neg (of_decide_eq_false h)]
          rw [e]; rfl
      | const c =>
        refine s_ifF (t_is (PW.pt (w_and (k := false) (l := false) (t_is (t_cmp op_eq rd_eqS (x_ixt (x_of (pv 10) rfl) x_int (at0 _ _)) x_str (nomark _)) ((k_is0 _).trans rfl)) fun h => by cases h)) rfl) (s_one ?_)
        refine s_ifF (t_is (t_cmp op_eq rd_eqS (x_ixt (x_of (pv 10) rfl) x_int (at0 _ _)) x_str (nomark _)) ((k_is0 _).trans rfl)) (s_one ?_)
        refine s_ifF (t_is (t_cmp op_eq rd_eqS (x_ixt (x_of (pv 10) rfl) x_int (at0 _ _)) x_str (nomark _)) ((k_is4 _).trans rfl)) (s_one ?_)
        refine s_ifF (t_is (t_cmp op_eq rd_eqS (x_ixt (x_of (pv 10) rfl) x_int (at0 _ _)) x_str (nomark _)) ((k_is8 _).trans rfl)) (s_one ?_)
        exact s_ifF (t_is (PW.pt (w_and (k := false) (l := false) (t_is (t_cmp op_eq rd_eqS (x_ixt (x_of (pv 10) rfl) x_int (at0 _ _)) x_str (nomark _)) ((k_is6 _).trans rfl)) fun h => by cases h)) rfl) (s_nil ⟨v13, v14, rfl⟩)
      | sum a b =>
        refine s_ifF (t_is (PW.pt (w_and (k := false) (l := false) (t_is (t_cmp op_eq rd_eqS (x_ixt (x_of (pv 10) rfl) x_int (at0 _ _)) x_str (nomark _)) ((k_is0 _).trans rfl)) fun h => by cases h)) rfl) (s_one ?_)
        refine s_ifF (t_is (t_cmp op_eq rd_eqS (x_ixt (x_of (pv 10) rfl) x_int (at0 _ _)) x_str (nomark _)) ((k_is0 _).trans rfl)) (s_one ?_)
        refine s_ifF (t_is (t_cmp op_eq rd_eqS (x_ixt (x_of (pv 10) rfl) x_int (at0 _ _)) x_str (nomark _)) ((k_is4 _).trans rfl)) (s_one ?_)
        refine s_ifF (t_is (t_cmp op_eq rd_eqS (x_ixt (x_of (pv 10) rfl) x_int (at0 _ _)) x_str (nomark _)) ((k_is8 _).trans rfl)) (s_one ?_)
        exact s_ifF (t_is (PW.pt (w_and (k := false) (l := false) (t_is (t_cmp op_eq rd_eqS (x_ixt (x_of (pv 10) rfl) x_int (at0 _ _)) x_str (nomark _)) ((k_is6 _).trans rfl)) fun h => by cases h)) rfl) (s_nil ⟨v13, v14, rfl⟩)
      | less a b =>
        refine s_ifF (t_is (PW.pt (w_and (k := false) (l := false) (t_is (t_cmp op_eq rd_eqS (x_ixt (x_of (pv 10) rfl) x_int (at0 _ _)) x_str (nomark _)) ((k_is0 _).trans rfl)) fun h => by cases h)) rfl) (s_one ?_)
        refine s_ifF (t_is (t_cmp op_eq rd_eqS (x_ixt (x_of (pv 10) rfl) x_int (at0 _ _)) x_str (nomark _)) ((k_is0 _).trans rfl)) (s_one ?_)
        refine s_ifF (t_is (t_cmp op_eq rd_eqS (x_ixt (x_of (pv 10) rfl) x_int (at0 _ _)) x_str (nomark _)) ((k_is4 _).trans rfl)) (s_one ?_)
        refine s_ifF (t_is (t_cmp op_eq rd_eqS (x_ixt (x_of (pv 10) rfl) x_int (at0 _ _)) x_str (nomark _)) ((k_is8 _).trans rfl)) (s_one ?_)
        exact s_ifF (t_is (PW.pt (w_and (k := false) (l := false) (t_is (t_cmp op_eq rd_eqS (x_ixt (x_of (pv 10) rfl) x_int (at0 _ _)) x_str (nomark _)) ((k_is6 _).trans rfl)) fun h => by cases h)) rfl) (s_nil ⟨v13, v14, rfl⟩)
      | times c a =>
        refine s_ifF (t_is (PW.pt (w_and (k := false) (l := false) (t_is (t_cmp op_eq rd_eqS (x_ixt (x_of (pv 10) rfl) x_int (at0 _ _)) x_str (nomark _)) ((k_is0 _).trans rfl)) fun h => by cases h)) rfl) (s_one ?_)
        refine s_ifF (t_is (t_cmp op_eq rd_eqS (x_ixt (x_of (pv 10) rfl) x_int (at0 _ _)) x_str (nomark _)) ((k_is0 _).trans rfl)) (s_one ?_)
        refine s_ifF (t_is (t_cmp op_eq rd_eqS (x_ixt (x_of (pv 10) rfl) x_int (at0 _ _)) x_str (nomark _)) ((k_is4 _).trans rfl)) (s_one ?_)
        refine s_ifF (t_is (t_cmp op_eq rd_eqS (x_ixt (x_of (pv 10) rfl) x_int (at0 _ _)) x_str (nomark _)) ((k_is8 _).trans rfl)) (s_one ?_)
        exact s_ifF (t_is (PW.pt (w_and (k := false) (l := false) (t_is (t_cmp op_eq rd_eqS (x_ixt (x_of (pv 10) rfl) x_int (at0 _ _)) x_str (nomark _)) ((k_is6 _).trans rfl)) fun h => by cases h)) rfl) (s_nil ⟨v13, v14, rfl⟩)
      | next =>
        refine s_ifF (t_is (PW.pt (w_and (k := false) (l := false) (t_is (t_cmp op_eq rd_eqS (x_ixt (x_of (pv 10) rfl) x_int (at0 _ _)) x_str (nomark _)) ((k_is0 _).trans rfl)) fun h => by cases h)) rfl) (s_one ?_)
        refine s_ifF (t_is (t_cmp op_eq rd_eqS (x_ixt (x_of (pv 10) rfl) x_int (at0 _ _)) x_str (nomark _)) ((k_is0 _).trans rfl)) (s_one ?_)
        refine s_ifF (t_is (t_cmp op_eq rd_eqS (x_ixt (x_of (pv 10) rfl) x_int (at0 _ _)) x_str (nomark _)) ((k_is4 _).trans rfl)) (s_one ?_)
        refine s_ifF (t_is (t_cmp op_eq rd_eqS (x_ixt (x_of (pv 10) rfl) x_int (at0 _ _)) x_str (nomark _)) ((k_is8 _).trans rfl)) (s_one ?_)
        exact s_ifF (t_is (PW.pt (w_and (k := false) (l := false) (t_is (t_cmp op_eq rd_eqS (x_ixt (x_of (pv 10) rfl) x_int (at0 _ _)) x_str (nomark _)) ((k_is6 _).trans rfl)) fun h => by cases h)) rfl) (s_nil ⟨v13, v14, rfl⟩)
    · rintro _ ⟨v13', v14', rfl⟩
      refine s_one (s_weak (s_app (d := viewR se rows ws ps dl k r) (pv 8) rfl (lt_ rfl) (by rw [List.length_map, List.length_range]; omega) (x_of (pv 12) rfl) rfl) ?_)
      rintro _ rfl
      refine ⟨.dat (.int (k : Int)), .dat r.d, .dat (.tup (natz (wkM rows ws k))), .dat (viewR se rows ws ps dl k r), v13', v14', ?_⟩
      rw [List.range_succ, List.map_append]
      show _ = [_, _, _, _, _, _, _, _, Sl.own (_ ++ [viewM se rows ws ins coins k]), _, _, _, _, _, _]
      rw [hitem k r hk]; rfl
  · rintro _ h; exact h
  · rintro _ ⟨v9, v10, v11, v12, v13, v14, rfl⟩
    exact s_one (s_ret (x_tuple rfl B.tuple (o_own (pv 8) rfl)))
end
end Un
set_option maxHeartbeats 4000000
/-! Un: the box of digits. -/
namespace Un
open PySem L2
def DigOk (ns : List Int) : Prop := (∀ z ∈ ns, 0 ≤ z ∧ z < 1000) ∧ ns.length ≤ 10000
def BoxOk (K : PySem.W.Frag) (C : Addr) (G H : Hp) (b : Addr) : Prop := ∃ dv a ns, H b = some (.lst [dv, .int a]) ∧ 0 ≤ a ∧ Dat K C G (.lst (inz ns)) dv ∧ DigOk ns
def bF (K : PySem.W.Frag) (C : Addr) (b : Addr) (G0 H0 : Hp) : Fm := { C := C, M := fun a => a = b, I := fun G H => BoxOk K C G H b, keep := fun G G' H H' s k ⟨dv, a, ns, h1, h2, h3, h4⟩ => ⟨dv, a, ns, by rw [k b rfl]; exact h1, h2, h3.mono s, h4⟩, G0 := G0, H0 := H0 }
def eF (K : PySem.W.Frag) (C : Addr) (b : Addr) (dv : V) (a : Int) (ns : List Int) (G0 H0 : Hp) : Fm := { C := C, M := fun x => x = b, I := fun G H => H b = some (.lst [dv, .int a]) ∧ Dat K C G (.lst (inz ns)) dv, keep := fun G G' H H' s k ⟨h1, h3⟩ => ⟨by rw [k b rfl]; exact h1, h3.mono s⟩, G0 := G0, H0 := H0 }
/-- a step that leaves all but the box -/
structure BStep (b : Addr) (G H G' H' : Hp) : Prop where
  gg : Sub G G'
  gh : Sub G' H'
  rh : ∀ a o, a ≠ b → H a = some o → H' a = some o
  rm : ∀ a, H a ≠ none → H' a ≠ none
  fr : ∀ a, H a ≠ none → G' a ≠ none → G a ≠ none
theorem BStep.trans {b : Addr} {G H G1 H1 G2 H2 : Hp} (s : BStep b G H G1 H1) (t : BStep b G1 H1 G2 H2) : BStep b G H G2 H2 :=
  ⟨s.gg.trans t.gg, t.gh, fun a o m h => t.rh a o m (s.rh a o m h), fun a h => t.rm a (s.rm a h), fun a h h2 => s.fr a h (t.fr a (s.rm a h) h2)⟩
theorem Step.b {K : PySem.W.Frag} {C b : Addr} {G0 H0 G H G' H' : Hp} (t : Step (bF K C b G0 H0) G H G' H') : BStep b G H G' H' := ⟨t.gg, t.gh, fun a o m h => t.rh a o m h, t.rm, t.fr⟩
theorem Step.e {K : PySem.W.Frag} {C b : Addr} {dv : V} {a : Int} {ns : List Int} {G0 H0 G H G' H' : Hp} (t : Step (eF K C b dv a ns G0 H0) G H G' H') : BStep b G H G' H' := ⟨t.gg, t.gh, fun a o m h => t.rh a o m h, t.rm, t.fr⟩
theorem BStep.st {K : PySem.W.Frag} {C b : Addr} {G0 H0 G H G' H' : Hp} (t : BStep b G H G' H') (h : BoxOk K C G' H' b) : Step (bF K C b G0 H0) G H G' H' := ⟨t.gg, t.gh, fun a o m h => t.rh a o m h, t.rm, t.fr, fun _ => h⟩
def spB (K : PySem.W.Frag) (C : Addr) (n : Nat) (Pre : List D → Prop) (Post : List D → D → Prop) : Sp := fun vs H Q _ => ∃ (b : Addr) (G : Hp) (ds : List D) (vs' : List V), vs = .ref b :: vs' ∧ ds.length = n ∧ Sub G H ∧ BoxOk K C G H b ∧ G b = none ∧ Dats K C G ds vs' ∧ Pre ds ∧
  ∀ v d G' H', Post ds d → BStep b G H G' H' → BoxOk K C G' H' b → Dat K C G' d v → Q v H'
def spBN (K : PySem.W.Frag) (C : Addr) (n : Nat) (Pre : List D → Prop) (Post : List D → List D → Prop) : Sp := fun vs H Q _ => ∃ (b : Addr) (G : Hp) (ds : List D) (vs' : List V), vs = .ref b :: vs' ∧ ds.length = n ∧ Sub G H ∧ BoxOk K C G H b ∧ G b = none ∧ Dats K C G ds vs' ∧ Pre ds ∧
  ∀ p xs es G' H', Post ds es → BStep b G H G' H' → BoxOk K C G' H' b → H p = none → G' p = none → H' p = some (.lst xs) → Dats K C G' es xs → Q (.ref p) H'
/-- from some data to some data -/
def spP (K : PySem.W.Frag) (C : Addr) (n : Nat) (Pre : List D → Prop) (Post : List D → List D → Prop) : Sp := fun vs H Q _ => ∃ G ds, ds.length = n ∧ Sub G H ∧ Dats K C G ds vs ∧ Pre ds ∧
  ∀ p xs es G' H', Post ds es → PStep G H G' H' → H p = none → G' p = none → H' p = some (.lst xs) → Dats K C G' es xs → Q (.ref p) H'
def entB (N : List Str) (b : Addr) (ds : List D) : List Sl := .pin b :: (ds.map Sl.dat ++ List.replicate (N.length - 1 - ds.length) .no)
theorem rep_startB {K : PySem.W.Frag} {f : Fm} {N : List Str} {b : Addr} {ds : List D} {vs : List V} (gh : Sub f.G0 f.H0) (inv : f.I f.G0 f.H0) (mM : ∀ a, f.M a → f.G0 a = none ∧ f.H0 a ≠ none) (hz : Dats K f.C f.G0 ds vs) : Rep K f (L2.start N (.ref b :: vs)) (entB N b ds) f.G0 f.H0 where
  gh := gh
  inv := inv
  mM := mM
  mM0 := fun a m => (mM a m).2
  st := Step.refl gh
  len := by
    unfold L2.start entB
    simp [hz.len]
    omega
  slot := fun i => by
    rw [sAt_start]
    cases i with
    | zero => exact rfl
    | succ i =>
      have e : dAt (entB N b ds) (i + 1) = match ds[i]? with | some d => .dat d | none => .no := by
        unfold dAt entB
        rw [List.getD_eq_getElem?_getD, List.getElem?_cons_succ, List.getElem?_append]
        split
        · rename_i h
          rw [List.getElem?_map]
          have l : i < ds.length := by simpa using h
          rw [List.getElem?_eq_getElem l]; rfl
        · rename_i h
          have l : ds.length ≤ i := by simpa using h
          rw [List.getElem?_eq_none l, List.getElem?_replicate]
          split <;> rfl
      rw [e, List.getElem?_cons_succ]
      cases e : ds[i]? with
      | none => exact True.intro
      | some d =>
        obtain ⟨x, hx, z⟩ := hz.get e
        exact ⟨x, hx, z⟩
  sep := fun i j l h1 _ _ _ => by
    cases i with
    | zero => cases h1
    | succ i =>
      have e : dAt (entB N b ds) (i + 1) = match ds[i]? with | some d => .dat d | none => .no := by
        unfold dAt entB
        rw [List.getD_eq_getElem?_getD, List.getElem?_cons_succ, List.getElem?_append]
        split
        · rename_i h
          rw [List.getElem?_map]
          have l : i < ds.length := by simpa using h
          rw [List.getElem?_eq_getElem l]; rfl
        · rename_i h
          have l : ds.length ≤ i := by simpa using h
          rw [List.getElem?_eq_none l, List.getElem?_replicate]
          split <;> rfl
      rw [e] at h1
      cases e : ds[i]? with
      | none => rw [e] at h1; cases h1
      | some d => rw [e] at h1; cases h1
section
variable {P : Program} {w : World} {K : PySem.W.Frag} {mg : Str → Option Value} {base : Heap} {C : Addr}
theorem fn_B {x qual : Str} {st : Stmt} {g : Addr} {fd : FuncData} {N ps : List Str} {k n : Nat} {Pre : List D → Prop} {Post : List D → D → Prop} (F : Fun K x qual st g fd) (sc : FnScope N ps (defScope st)) (hn : ps.length = n + 1)
    (hb : ∀ (cdv : Value) (A : Around) (outer : List Env) (s : Shared) (H : Hp) (E : XK) (G : Hp) (b : Addr) (ds : List D), Room k (bX P w K mg base N qual st g cdv A outer s H E).A → ds.length = n → Pre ds →
      PSs (bX P w K mg base N qual st g cdv A outer s H E) (defBody st) (tX K (bF K C b G H) (entB N b ds) (fun _ => False) (retP K (bF K C b G H) (Post ds)))) :
    FnOk P w K mg base CX0 (k + 1) g fd ps (spB K C n Pre Post) := by
  refine F.ok sc (fun vs H Q E h => ?_) (fun cdv A outer s H vs Q E hr h => ?_)
  · obtain ⟨b, G, ds, vs', rfl, hl, sb, _, _, z, _⟩ := h
    rw [hn, ← hl, z.len]; rfl
  · obtain ⟨b, G, ds, vs', rfl, hl, sb, bo, gb, z, hS, q⟩ := h
    obtain ⟨dv, a, ns, h1, h2, h3, h4⟩ := id bo
    refine ⟨_, hb cdv A outer s H E G b ds hr hl hS, G, rep_startB (f := bF K C b G H) sb bo (fun y m => by cases m; exact ⟨gb, ne_none h1⟩) z, fun _ _ _ _ f => f.elim, fun v H' ⟨d', G', t, e, z'⟩ => ?_⟩
    exact q v d' G' H' e t.b (t.inv bo) z'
theorem fn_BN {x qual : Str} {st : Stmt} {g : Addr} {fd : FuncData} {N ps : List Str} {k n : Nat} {Pre : List D → Prop} {Post : List D → List D → Prop} (F : Fun K x qual st g fd) (sc : FnScope N ps (defScope st)) (hn : ps.length = n + 1)
    (hb : ∀ (cdv : Value) (A : Around) (outer : List Env) (s : Shared) (H : Hp) (E : XK) (G : Hp) (b : Addr) (ds : List D), Room k (bX P w K mg base N qual st g cdv A outer s H E).A → ds.length = n → Pre ds →
      PSs (bX P w K mg base N qual st g cdv A outer s H E) (defBody st) (tX K (bF K C b G H) (entB N b ds) (fun _ => False) (retNP K (bF K C b G H) (Post ds)))) :
    FnOk P w K mg base CX0 (k + 1) g fd ps (spBN K C n Pre Post) := by
  refine F.ok sc (fun vs H Q E h => ?_) (fun cdv A outer s H vs Q E hr h => ?_)
  · obtain ⟨b, G, ds, vs', rfl, hl, sb, _, _, z, _⟩ := h
    rw [hn, ← hl, z.len]; rfl
  · obtain ⟨b, G, ds, vs', rfl, hl, sb, bo, gb, z, hS, q⟩ := h
    obtain ⟨dv, a, ns, h1, h2, h3, h4⟩ := id bo
    refine ⟨_, hb cdv A outer s H E G b ds hr hl hS, G, rep_startB (f := bF K C b G H) sb bo (fun y m => by cases m; exact ⟨gb, ne_none h1⟩) z, fun _ _ _ _ f => f.elim, fun v H' ⟨p, xs, es, G', e1, t, h1, h2, h3, h4, h5, h6⟩ => ?_⟩
    subst e1
    exact q p xs es G' H' h5 t.b (t.inv bo) h1 h2 h4 h6
theorem fn_P {x qual : Str} {st : Stmt} {g : Addr} {fd : FuncData} {N ps : List Str} {k n : Nat} {Pre : List D → Prop} {Post : List D → List D → Prop} (F : Fun K x qual st g fd) (sc : FnScope N ps (defScope st)) (hn : ps.length = n)
    (hb : ∀ (cdv : Value) (A : Around) (outer : List Env) (s : Shared) (H : Hp) (E : XK) (G : Hp) (ds : List D), Room k (bX P w K mg base N qual st g cdv A outer s H E).A → Pre ds →
      PSs (bX P w K mg base N qual st g cdv A outer s H E) (defBody st) (tX K (pf C G H) (ent N ds) (fun _ => False) (retNP K (pf C G H) (Post ds)))) :
    FnOk P w K mg base CX0 (k + 1) g fd ps (spP K C n Pre Post) := by
  refine F.ok sc (fun vs H Q E h => ?_) (fun cdv A outer s H vs Q E hr h => ?_)
  · obtain ⟨G, ds, hl, sb, z, _⟩ := h
    rw [hn, ← hl, z.len]
  · obtain ⟨G, ds, hl, sb, z, hS, q⟩ := h
    refine ⟨_, hb cdv A outer s H E G ds hr hS, G, rep_start (f := pf C G H) sb True.intro (fun _ m => m.elim) z, fun _ _ _ _ f => f.elim, fun v H' ⟨p, xs, es, G', e1, t, h1, h2, h3, h4, h5, h6⟩ => ?_⟩
    subst e1
    exact q p xs es G' H' h5 t.p h1 h2 h4 h6
end
section
variable {X : Cx} {C b : Addr} {G0 H0 : Hp} {δ : List Sl} {k n i : Nat} {ps : List Str} {x : Str} {p pos : Pos} {e0 e : Expr} {es : List Expr}
/-- g(box, ..) -/
theorem x_callB {Pre : List D → Prop} {Post : List D → D → Prop} {Ps : List D → Prop} {R : D → Prop} (c : Glo X.prog X.w X.K X.mg X.base x k ps (spB X.K C n Pre Post)) (hr : Room k X.A) (h0 : PE X e0 (tVar i)) (hd : dAt δ i = .pin b) (ha : PA X es (tAP X.K (bF X.K C b G0 H0) δ Ps)) (hS : ∀ ds, Ps ds → ds.length = n ∧ Pre ds ∧ ∀ d, Post ds d → R d)
    (hg : Gl X x := by rfl) (hdb : (x == ("__debug__" : Str)) = false := by decide) (he : starEach (e0 :: es) X.env = (false, eval e0 X.env) :: starEach es X.env := by rfl) (hpl : (backTo pos (starEach es X.env)).any (·.1) = false := by rfl) :
    PE X (.Call (.Name x p) (e0 :: es) [] pos) (tP X.K (bF X.K C b G0 H0) δ R) := by
  obtain ⟨g, fd, F, hm, hk, hb⟩ := c.ex
  refine pe_imp (pe_call F hr hg hm hk hb .nil pass0 (pa_cons h0 ha he) hdb he hpl) fun σ H Q ⟨G, rp, q⟩ => ?_
  have s := rp.slot i
  rw [hd] at s
  refine ⟨.ref b, sAt_some s, G, rp, fun vs ds G1 H1 t1 p1 z1 => ?_⟩
  obtain ⟨hl, hp, hR⟩ := hS ds p1
  have rp1 := rp.step t1
  rw [List.append_nil]
  exact ⟨b, G1, ds, vs, rfl, hl, t1.gh, rp1.inv, (rp1.mM b rfl).1, z1, hp, fun v d G' H' po t bo z => q v d G' H' (t1.trans (t.st bo)) (hR d po) z⟩
theorem x_callBN {Pre : List D → Prop} {Post : List D → List D → Prop} {Ps : List D → Prop} {R : List D → Prop} (c : Glo X.prog X.w X.K X.mg X.base x k ps (spBN X.K C n Pre Post)) (hr : Room k X.A) (h0 : PE X e0 (tVar i)) (hd : dAt δ i = .pin b) (ha : PA X es (tAP X.K (bF X.K C b G0 H0) δ Ps)) (hS : ∀ ds, Ps ds → ds.length = n ∧ Pre ds ∧ ∀ d, Post ds d → R d)
    (hg : Gl X x := by rfl) (hdb : (x == ("__debug__" : Str)) = false := by decide) (he : starEach (e0 :: es) X.env = (false, eval e0 X.env) :: starEach es X.env := by rfl) (hpl : (backTo pos (starEach es X.env)).any (·.1) = false := by rfl) :
    PE X (.Call (.Name x p) (e0 :: es) [] pos) (tNP X.K (bF X.K C b G0 H0) δ R) := by
  obtain ⟨g, fd, F, hm, hk, hb⟩ := c.ex
  refine pe_imp (pe_call F hr hg hm hk hb .nil pass0 (pa_cons h0 ha he) hdb he hpl) fun σ H Q ⟨G, rp, q⟩ => ?_
  have s := rp.slot i
  rw [hd] at s
  refine ⟨.ref b, sAt_some s, G, rp, fun vs ds G1 H1 t1 p1 z1 => ?_⟩
  obtain ⟨hl, hp, hR⟩ := hS ds p1
  have rp1 := rp.step t1
  rw [List.append_nil]
  refine ⟨b, G1, ds, vs, rfl, hl, t1.gh, rp1.inv, (rp1.mM b rfl).1, z1, hp, fun pp xs es G' H' po t bo h1 h2 h3 z => ?_⟩
  have bk := rp.back t1 h1
  exact q pp xs es G' H' (t1.trans (t.st bo)) bk.1 h2 bk.2 h3 (hR es po) z
theorem x_callP2 {f : Fm} {Pre : List D → Prop} {Post : List D → List D → Prop} {ds : List D} {R : List D → Prop} (c : Glo X.prog X.w X.K X.mg X.base x k ps (spP X.K f.C n Pre Post)) (hr : Room k X.A) (ha : PA X (e :: es) (tL X.K f δ ds)) (hl : ds.length = n) (hp : Pre ds) (hS : ∀ d, Post ds d → R d)
    (hg : Gl X x := by rfl) (hdb : (x == ("__debug__" : Str)) = false := by decide) (he : starEach (e :: es) X.env = (false, eval e X.env) :: starEach es X.env := by rfl) (hpl : (backTo pos (starEach es X.env)).any (·.1) = false := by rfl) :
    PE X (.Call (.Name x p) (e :: es) [] pos) (tNP X.K f δ R) := by
  obtain ⟨g, fd, F, hm, hk, hb⟩ := c.ex
  refine pe_imp (pe_call F hr hg hm hk hb .nil pass0 ha hdb he hpl) fun σ H Q ⟨G, rp, q⟩ => ⟨G, rp, fun vs ds' G1 H1 t1 p1 z1 => ?_⟩
  subst p1
  rw [List.append_nil]
  refine ⟨G1, ds', hl, t1.gh, z1, hp, fun pp xs es G' H' po t hpp hg' ho z => ?_⟩
  have bk := rp.back t1 hpp
  exact q pp xs es G' H' (t1.trans (t.step (rp.step t1).hM)) bk.1 hg' bk.2 ho (hS es po) z
/-- the box as an operand, its state known -/
theorem o_pin {dv : V} {a : Int} {ns : List Int} (h0 : PE X e0 (tVar i)) (hd : dAt δ i = .pin b) : PE X e0 (tSl X.K (eF X.K C b dv a ns G0 H0) δ [.lst (inz ns), .int a]) := pe_imp h0 fun σ H Q ⟨G, rp, q⟩ => by
  have s := rp.slot i
  rw [hd] at s
  refine ⟨.ref b, sAt_some s, q b [dv, .int a] G H (Step.refl rp.gh) (fun G2 H2 t => ?_) (dats_cons rp.inv.2 (dats_cons dat_int dats_nil))⟩
  exact SqL.of (t.inv rp.inv).1
end
end Un
set_option maxHeartbeats 4000000
namespace Un
open PySem L2
section
variable {X : Cx} {C b : Addr} {G0 H0 : Hp} {δ : List Sl} {R : V → Hp → Prop}
/-- box[1] = e -/
theorem s_bput {o ix e : Expr} {i : Nat} {dv : V} {a a' : Int} {ns : List Int} {pos' pos : Pos} {rest : List Stmt} (ho : PE X o (tVar i)) (hd : dAt δ i = .pin b) (hi : PE X ix (tD X.K (eF X.K C b dv a ns G0 H0) δ (.int 1))) (he : PE X e (tD X.K (eF X.K C b dv a ns G0 H0) δ (.int a'))) (hno : ∀ i, isOwn (dAt δ i) = false)
    (h : ∀ G2 H2, BStep b G0 H0 G2 H2 → H2 b = some (.lst [dv, .int a']) → Dat X.K C G2 (.lst (inz ns)) dv → PSs X rest (tX X.K (eF X.K C b dv a' ns G2 H2) δ (fun _ => False) R))
    (ha : ∀ v, assign (.Subscript o ix pos') X.env v = (do
      let ov ← holding [v] (eval o X.env)
      let iv ← holding [v, ov] (eval ix X.env)
      standAt pos'
      holding [v, ov, iv] (setItem ov iv v)
      release [v, ov, iv] []) := by intro _; rfl)
    (hs : swapsWithSole [.Subscript o ix pos'] e pos.line X.env = pure false := by rfl) (hw : swappedStores [.Subscript o ix pos'] e X.env = pure none := by rfl) (h1 : (assignEach [.Subscript o ix pos'] X.env).map (·.2) = [assign (.Subscript o ix pos') X.env] := by rfl) :
    PSs X (.Assign [.Subscript o ix pos'] e pos :: rest) (tX X.K (eF X.K C b dv a ns G0 H0) δ (fun _ => False) R) := by
  refine pss_imp (pss_cons (ps_asg he (pg_sub ho hi set_list ha) hs hw h1) (pss_ex (α := Hp × Hp) (p := fun z => BStep b G0 H0 z.1 z.2 ∧ z.2 b = some (.lst [dv, .int a']) ∧ Dat X.K C z.1 (.lst (inz ns)) dv) (t := fun z => tX X.K (eF X.K C b dv a' ns z.1 z.2) δ (fun _ => False) R) fun z hz => h z.1 z.2 hz.1 hz.2.1 hz.2.2)) fun Dn σ H ⟨G, rp, hn, hr⟩ => ⟨G, rp, fun v d G1 H1 t1 e1 z1 => ?_⟩
  subst e1
  have rp1 := rp.step t1
  have s := rp1.slot i
  rw [hd] at s
  refine ⟨.ref b, sAt_some s, G1, rp1, fun v2 d2 G2 H2 t2 e2 z2 => ?_⟩
  subst e2
  have rp2 := rp1.step t2
  rw [z2.int_inv, z1.int_inv]
  have iv := rp2.inv
  have gb : G2 b = none := (rp2.mM b rfl).1
  refine ⟨b, [dv, .int a], 1, 1, rfl, rfl, iv.1, rfl, ?_⟩
  have bs := (rp.st.trans (t1.trans t2)).e
  have gh2 : Sub G2 (upd H2 b (.lst [dv, .int a'])) := rp2.gh.upd1 gb
  refine ⟨(G2, upd H2 b (.lst [dv, .int a'])), ⟨⟨bs.gg, gh2, fun y o m q => by show upd H2 b _ y = _; rw [upd_ne m]; exact bs.rh y o m q, fun y q => ?_, bs.fr⟩, upd_same, iv.2⟩, G2, ⟨gh2, ⟨upd_same, iv.2⟩, fun y m => ?_, fun y m => ?_, Step.refl gh2, rp2.len, fun j => ?_, fun j k l q _ _ _ => ?_⟩, fun _ _ _ _ f => f.elim, hr⟩
  · show upd H2 b (.lst [dv, .int a']) y ≠ none
    by_cases e : y = b
    · subst e; rw [upd_same]; exact fun z => by cases z
    · rw [upd_ne e]; exact bs.rm y q
  · cases m; exact ⟨gb, by rw [upd_same]; exact fun z => by cases z⟩
  · cases m; show upd H2 b _ b ≠ none; rw [upd_same]; exact fun z => by cases z
  · have s := rp2.slot j
    have no := hno j
    cases q : dAt δ j with
    | no => exact True.intro
    | dat d => rw [q] at s; exact s
    | pin y => rw [q] at s; exact s
    | own _ => rw [q] at no; cases no
    | ownd _ => rw [q] at no; cases no
  · rw [hno j] at q; cases q
/-- a return whose reading is given on -/
theorem s_retR {f : Fm} {e : Expr} {pos : Pos} {P : D → Prop} {N : List Sl → Prop} (he : PE X e (tP X.K f δ P)) (h : ∀ v H', retP X.K f P v H' → R v H') : PS X (.Return (some e) pos) (tX X.K f δ N R) :=
  ps_imp (s_ret (N := N) he) fun Dn σ H ⟨G, rp, hn, hr⟩ => ⟨G, rp, hn, fun v H' q => hr v H' (h v H' q)⟩
end
def IntR (lo hi : Int) (d : D) : Prop := ∃ i, d = .int i ∧ lo ≤ i ∧ i < hi
def PreDraw (ds : List D) : Prop := ∃ m : Int, ds = [.int m] ∧ 0 < m
def PostDraw (ds : List D) (d : D) : Prop := ∃ m : Int, ds = [.int m] ∧ IntR 0 m d
def PrePick (ds : List D) : Prop := ∃ l : List D, ds = [.lst l] ∧ 0 < l.length ∧ l.length ≤ 1000
def PostPick (ds : List D) (d : D) : Prop := ∃ l : List D, ds = [.lst l] ∧ d ∈ l
section
variable {P : Program} {w : World} {K : PySem.W.Frag} {mg : Str → Option Value} {base : Heap} {C : Addr} {g : Addr} {fd : FuncData}
abbrev s__law_draw : Stmt := top 55
abbrev N__law_draw : List Str := ["_law_box", "_law_many", "_law_at_here"]
theorem sc__law_draw : FnScope N__law_draw ["_law_box", "_law_many"] (defScope s__law_draw) := ⟨rfl, rfl, rfl, by decide +kernel, rfl, by decide +kernel, by decide +kernel⟩
theorem ok_law_draw (B : Bt mg) (F : Fun K "_law_draw" "_law_draw" s__law_draw g fd) : FnOk P w K mg base CX0 1 g fd ["_law_box", "_law_many"] (spB K C 1 PreDraw PostDraw) := by
  refine F.ok sc__law_draw (fun vs H Q E h => ?_) (fun cdv A outer s H vs Q E hr h => ?_)
  · obtain ⟨b, G, ds, vs', rfl, hl, sb, _, _, z, _⟩ := h
    rw [List.length_cons, ← z.len, hl]; rfl
  obtain ⟨b, G, ds, vs', rfl, hl, sb, bo, gb, z, ⟨m, rfl, hm⟩, q⟩ := h
  obtain ⟨dv, a, ns, h1, h2, h3, h4, h5⟩ := bo
  have nd := sc__law_draw.nd
  have body : PSs (bX P w K mg base N__law_draw "_law_draw" s__law_draw g cdv A outer s H E) (defBody s__law_draw) (tX K (eF K C b dv a ns G H) [.pin b, .dat (.int m), .no] (fun _ => False) (fun v H' => ∃ d G', IntR 0 m d ∧ BStep b G H G' H' ∧ BoxOk K C G' H' b ∧ Dat K C G' d v)) := by
    refine s_seq (s_set (i := 2) nd rfl (.inl rfl) (lt_ rfl) (x_ix (o_l (o_pin (pv 0) rfl)) x_int rfl) rfl) ?_
    refine s_bput (i := 0) (pv 0) rfl x_int (x_add (x_of (pv 2) rfl) x_int) (fun i => ?_) (fun G2 H2 bs q1 q2 => ?_)
    · match i with
      | 0 => rfl
      | 1 => rfl
      | 2 => rfl
      | n + 3 => rfl
    have fin : ∀ v H', retP K (eF K C b dv (a + 1) ns G2 H2) (IntR 0 m) v H' → ∃ d G', IntR 0 m d ∧ BStep b G H G' H' ∧ BoxOk K C G' H' b ∧ Dat K C G' d v := fun v H' ⟨d, G', t, p, zd⟩ => by
      have iv := t.inv ⟨q1, q2⟩
      exact ⟨d, G', p, bs.trans t.e, ⟨dv, a + 1, ns, iv.1, by omega, iv.2, h4, h5⟩, zd⟩
    refine ss_ifl (t_cmp op_lt rd_lt (x_of (pv 2) rfl) (x_len rfl B.len (o_l (o_lst (x_ix (o_l (o_pin (pv 0) rfl)) x_int rfl)))) (nomark _)) (fun hc => ?_) (fun hc => ?_)
    · have hc : a < ((inz ns).length : Int) := of_decide_eq_true hc
      rw [List.length_map] at hc
      obtain ⟨j, rfl⟩ := Int.eq_ofNat_of_zero_le h2
      exact s_one (s_retR (x_weak (x_mod hm (x_inti rfl B.int (x_ix (o_l (o_lst (x_ix (o_l (o_pin (pv 0) rfl)) x_int rfl))) (x_of (pv 2) rfl) (inz_at (by omega)))) (x_of (pv 1) rfl)) fun d e => ⟨_, e, Int.emod_nonneg _ (by omega), Int.emod_lt_of_pos _ hm⟩) fin)
    · exact s_one (s_retR (x_weak x_int fun d e => ⟨0, e, by omega, hm⟩) fin)
  refine ⟨_, body, G, rep_startB (f := eF K C b dv a ns G H) (ds := [.int m]) sb ⟨h1, h3⟩ (fun y mm => by cases mm; exact ⟨gb, ne_none h1⟩) z, fun _ _ _ _ f => f.elim, ?_⟩
  rintro v H' ⟨d, G', p, bs, bo', zd⟩
  exact q v d G' H' ⟨m, rfl, p⟩ bs bo' zd
abbrev s__law_pick : Stmt := top 56
abbrev N__law_pick : List Str := ["_law_box", "_law_things"]
theorem sc__law_pick : FnScope N__law_pick ["_law_box", "_law_things"] (defScope s__law_pick) := ⟨rfl, rfl, rfl, by decide +kernel, rfl, by decide +kernel, by decide +kernel⟩
theorem x_draw {X : Cx} {C b : Addr} {G0 H0 : Hp} {δ : List Sl} {i : Nat} {x : Str} {p pos : Pos} {e0 e : Expr} {Pm : D → Prop} {R : D → Prop} (c : Glo X.prog X.w X.K X.mg X.base x 1 ["_law_box", "_law_many"] (spB X.K C 1 PreDraw PostDraw)) (hr : Room 1 X.A) (h0 : PE X e0 (tVar i)) (hd : dAt δ i = .pin b) (ha : PE X e (tP X.K (bF X.K C b G0 H0) δ Pm)) (hS : ∀ d, Pm d → ∃ m : Int, d = .int m ∧ 0 < m ∧ ∀ d', IntR 0 m d' → R d')
    (hg : Gl X x := by rfl) (hdb : (x == ("__debug__" : Str)) = false := by decide) (he : starEach (e0 :: [e]) X.env = (false, eval e0 X.env) :: starEach [e] X.env := by rfl) (he2 : starEach (e :: []) X.env = (false, eval e X.env) :: starEach [] X.env := by rfl) (hpl : (backTo pos (starEach [e] X.env)).any (·.1) = false := by rfl) :
    PE X (.Call (.Name x p) (e0 :: [e]) [] pos) (tP X.K (bF X.K C b G0 H0) δ R) :=
  x_callB (Ps := fun ds => ∃ d, ds = [d] ∧ Pm d) c hr h0 hd (a_consP ha a_nil (fun d ds h e => by rw [e]; exact ⟨d, rfl, h⟩) he2) (fun ds ⟨d, e, h⟩ => by
    obtain ⟨m, rfl, hm, k⟩ := hS d h
    exact ⟨by rw [e]; rfl, ⟨m, e, hm⟩, fun d' ⟨m', e', h'⟩ => k d' (by rw [e] at e'; cases e'; exact h')⟩) hg hdb he hpl
theorem ok_law_pick (B : Bt mg) (c_law_draw : Glo P w K mg base "_law_draw" 1 ["_law_box", "_law_many"] (spB K C 1 PreDraw PostDraw)) (F : Fun K "_law_pick" "_law_pick" s__law_pick g fd) : FnOk P w K mg base CX0 2 g fd ["_law_box", "_law_things"] (spB K C 1 PrePick PostPick) := by
  refine fn_B F sc__law_pick rfl fun cdv A outer s H E G b ds hr hl hS => ?_
  obtain ⟨l, rfl, h0, h1⟩ := hS
  refine s_one (s_ret (x_ixP (P1 := IntR 0 (l.length : Int)) (o_l (o_lst (x_of (pv 1) rfl))) (x_opP op_mod (fun d1 d2 (q1 : IntR 0 900 d1) (q2 : d2 = .int (l.length : Nat)) => ?_) (x_intP rfl B.int (x_draw c_law_draw hr (pv 0) rfl x_int (fun d e => ⟨900, e, by decide, fun d' h => h⟩)) (fun d ⟨i, e, _⟩ => ⟨i, e⟩)) (x_len rfl B.len (o_l (o_lst (x_of (pv 1) rfl))))) ?_))
  · obtain ⟨i, rfl, i0, i1⟩ := q1
    subst q2
    exact ⟨.int (i % (l.length : Int)), ⟨_, rfl, Int.emod_nonneg _ (by omega), Int.emod_lt_of_pos _ (by omega)⟩, rd_i (show 0 < ((l.length : Nat) : Int) by omega) fun _ => dat_int⟩
  · rintro e ⟨i, rfl, i0, i1⟩
    obtain ⟨j, rfl⟩ := Int.eq_ofNat_of_zero_le i0
    have hj : j < l.length := by omega
    exact ⟨_, l[j], rfl, atI_nat (List.getElem?_eq_getElem hj), l, rfl, List.getElem_mem hj⟩
end
end Un
set_option maxHeartbeats 4000000
namespace Un
open PySem L2
def isI (d : D) : Prop := ∃ i, d = .int i
theorem IntR.isI {lo hi : Int} {d : D} (h : IntR lo hi d) : isI d := let ⟨i, e, _⟩ := h; ⟨i, e⟩
section
variable {X : Cx} {f : Fm} {δ : List Sl} {a b : Expr} {pos : Pos}
theorem x_addI (ha : PE X a (tP X.K f δ isI)) (hb : PE X b (tP X.K f δ isI)) : PE X (.BinOp a .Add b pos) (tP X.K f δ isI) :=
  x_opP op_add (fun d1 d2 ⟨i, e1⟩ ⟨j, e2⟩ => ⟨.int (i + j), ⟨_, rfl⟩, by subst e1; subst e2; exact rd_i0 fun _ => dat_int⟩) ha hb
theorem x_addR {l1 h1 l2 h2 : Int} (ha : PE X a (tP X.K f δ (IntR l1 h1))) (hb : PE X b (tP X.K f δ (IntR l2 h2))) : PE X (.BinOp a .Add b pos) (tP X.K f δ (IntR (l1 + l2) (h1 + h2 - 1))) :=
  x_opP op_add (fun d1 d2 ⟨i, e1, i1, i2⟩ ⟨j, e2, j1, j2⟩ => ⟨.int (i + j), ⟨_, rfl, by omega, by omega⟩, by subst e1; subst e2; exact rd_i0 fun _ => dat_int⟩) ha hb
theorem x_mulI {c : Int} (hc : -(2 ^ 64) < c ∧ c < 2 ^ 64) (ha : PE X a (tP X.K f δ isI)) (hb : PE X b (tD X.K f δ (.int c))) : PE X (.BinOp a .Mult b pos) (tP X.K f δ isI) :=
  x_opP op_mul (fun d1 d2 ⟨i, e1⟩ e2 => ⟨.int (i * c), ⟨_, rfl⟩, by subst e1; subst e2; exact rd_i (C := CMul) (.inr hc) fun _ => dat_int⟩) ha hb
theorem x_modI {m : Int} (hm : 0 < m) (ha : PE X a (tP X.K f δ isI)) (hb : PE X b (tD X.K f δ (.int m))) : PE X (.BinOp a .Mod b pos) (tP X.K f δ (IntR 0 m)) :=
  x_opP op_mod (fun d1 d2 ⟨i, e1⟩ e2 => ⟨.int (i % m), ⟨_, rfl, Int.emod_nonneg _ (by omega), Int.emod_lt_of_pos _ hm⟩, by subst e1; subst e2; exact rd_i (C := fun _ j => 0 < j) hm fun _ => dat_int⟩) ha hb
end
def Rz (p : Int) (ns : List Int) : Prop := ∀ z ∈ ns, 0 ≤ z ∧ z < p
def PreNum (ds : List D) : Prop := ∃ p : Int, ds = [.int p] ∧ 0 < p
def PostNum (ds : List D) (d : D) : Prop := ∃ p : Int, ds = [.int p] ∧ IntR 0 p d
def PreNums (ds : List D) : Prop := ∃ (p : Int) (m : Nat), ds = [.int p, .int (m : Int)] ∧ 0 < p ∧ m ≤ 1000
def PostNums (ds : List D) (d : D) : Prop := ∃ (p : Int) (m : Nat) (ns : List Int), ds = [.int p, .int (m : Int)] ∧ d = .tup (inz ns) ∧ ns.length = m ∧ Rz p ns
def PreNone (ds : List D) : Prop := ds = []
def PostFew (ds : List D) (d : D) : Prop := ∃ se : Se, d = se.d ∧ se.Ok
def PreTurn (ds : List D) : Prop := ∃ l : List D, ds = [.lst l] ∧ l.length ≤ 1000
def PostTurn (ds : List D) (es : List D) : Prop := ∃ l : List D, ds = [.lst l] ∧ es.Perm l
def PreIn (ds : List D) : Prop := ∃ (se : Se) (rows : List Row), ds = [se.d, progD rows] ∧ se.Ok ∧ rows.length ≤ 60 ∧ 0 < rows.length
def PostIn (ds : List D) (d : D) : Prop := ∃ (se : Se) (rows : List Row) (ns : List Int), ds = [se.d, progD rows] ∧ d = .tup (inz ns) ∧ ns.length = inN rows ∧ Rz se.p ns
def PostCo (ds : List D) (d : D) : Prop := ∃ (se : Se) (rows : List Row) (ns : List Int), ds = [se.d, progD rows] ∧ d = .tup (inz ns) ∧ ns.length = coinsN se rows ∧ Rz se.p ns
section
variable {P : Program} {w : World} {K : PySem.W.Frag} {mg : Str → Option Value} {base : Heap} {C : Addr} {g : Addr} {fd : FuncData}
abbrev s__law_number : Stmt := top 58
abbrev N__law_number : List Str := ["_law_box", "_law_p"]
theorem sc__law_number : FnScope N__law_number ["_law_box", "_law_p"] (defScope s__law_number) := ⟨rfl, rfl, rfl, by decide +kernel, rfl, by decide +kernel, by decide +kernel⟩
theorem ok_law_number (B : Bt mg) (c_law_draw : Glo P w K mg base "_law_draw" 1 ["_law_box", "_law_many"] (spB K C 1 PreDraw PostDraw)) (F : Fun K "_law_number" "_law_number" s__law_number g fd) : FnOk P w K mg base CX0 2 g fd ["_law_box", "_law_p"] (spB K C 1 PreNum PostNum) := by
  refine fn_B F sc__law_number rfl fun cdv A outer s H E G b ds hr hl hS => ?_
  obtain ⟨p, rfl, hp⟩ := hS
  exact s_one (s_ret (x_weak (x_modI hp (x_intP rfl B.int (x_addI (x_mulI (by decide) (x_draw c_law_draw hr (pv 0) rfl x_int (fun d e => ⟨1000, e, by decide, fun d' h => h.isI⟩)) x_int) (x_draw c_law_draw hr (pv 0) rfl x_int (fun d e => ⟨1000, e, by decide, fun d' h => h.isI⟩))) (fun d h => h)) (x_of (pv 1) rfl)) fun d h => ⟨p, rfl, h⟩))
abbrev s__law_numbers : Stmt := top 59
abbrev N__law_numbers : List Str := ["_law_box", "_law_p", "_law_many", "_law_k"]
theorem sc__law_numbers : FnScope N__law_numbers ["_law_box", "_law_p", "_law_many"] (defScope s__law_numbers) := ⟨rfl, rfl, rfl, by decide +kernel, rfl, by decide +kernel, by decide +kernel⟩
theorem ok_law_numbers (B : Bt mg) (c_law_number : Glo P w K mg base "_law_number" 2 ["_law_box", "_law_p"] (spB K C 1 PreNum PostNum)) (F : Fun K "_law_numbers" "_law_numbers" s__law_numbers g fd) : FnOk P w K mg base CX0 3 g fd ["_law_box", "_law_p", "_law_many"] (spB K C 2 PreNums PostNums) := by
  refine fn_B F sc__law_numbers rfl fun cdv A outer s H E G b ds hr hl hS => ?_
  obtain ⟨p, m, rfl, hp, hm⟩ := hS
  have nd := sc__law_numbers.nd
  refine s_one (s_ret (x_tupleNP (P := fun acc => ∃ ns : List Int, acc = inz ns ∧ ns.length = m ∧ Rz p ns) rfl B.tuple (x_lcP (j := 3) (P := fun e => e = rngD 0 m) (b := fun _ => true) (Pe := fun _ => IntR 0 p) (fun _ i acc => ∃ ns : List Int, acc = inz ns ∧ ns.length = i ∧ Rz p ns) rfl nd (lt_ rfl) (i_s (i_rng1 (by omega) rfl B.range (x_of (pv 2) rfl))) (blkOk_by (N := N__law_numbers) (sc := defScope s__law_numbers) (by decide +kernel)) (fun _ _ _ _ _ => pg_name (i := 3) nd rfl (.inl rfl))
    (fun a _ _ _ _ _ _ => pts_imp pts_nil fun σ H Q ⟨G, rp, q⟩ => q G H (Step.refl rp.gh)) (fun a _ _ _ _ _ _ => x_callB (Ps := fun ds => ds = [.int p]) c_law_number hr (pv 0) rfl (a_cons (x_of (pv 1) rfl) a_nil) (fun ds e => ⟨by rw [e]; rfl, ⟨p, e, hp⟩, fun d ⟨p', e', h⟩ => by rw [e] at e'; cases e'; exact h⟩)) ?_ ?_ ?_) (fun acc h => ?_)))
  · rintro ds rfl
    exact ⟨by rw [rngD_len]; omega, [], rfl, rfl, fun z h => by cases h⟩
  · rintro ds i d acc rfl _ ⟨ns, rfl, hn, hz⟩
    refine ⟨fun h => by (cases h), fun _ e ⟨z, e1, z0, z1⟩ => ⟨ns ++ [z], by rw [e1]; simp [inz], by rw [List.length_append, hn]; rfl, fun y hy => ?_⟩⟩
    rcases List.mem_append.mp hy with hy | hy
    · exact hz y hy
    · rw [List.mem_singleton.mp hy]; exact ⟨z0, z1⟩
  · rintro ds acc rfl ⟨ns, h1, h2, h3⟩
    rw [rngD_len] at h2
    exact ⟨ns, h1, h2, h3⟩
  · obtain ⟨ns, h1, h2, h3⟩ := h
    exact ⟨p, m, ns, rfl, by rw [h1], h2, h3⟩
abbrev s__law_few : Stmt := top 60
abbrev N__law_few : List Str := ["_law_box", "_law_p", "_law_n"]
theorem sc__law_few : FnScope N__law_few ["_law_box"] (defScope s__law_few) := ⟨rfl, rfl, rfl, by decide +kernel, rfl, by decide +kernel, by decide +kernel⟩
theorem ok_law_few (B : Bt mg) (c_law_draw : Glo P w K mg base "_law_draw" 1 ["_law_box", "_law_many"] (spB K C 1 PreDraw PostDraw)) (c_law_pick : Glo P w K mg base "_law_pick" 2 ["_law_box", "_law_things"] (spB K C 1 PrePick PostPick)) (F : Fun K "_law_few" "_law_few" s__law_few g fd) :
    FnOk P w K mg base CX0 3 g fd ["_law_box"] (spB K C 0 PreNone PostFew) := by
  refine fn_B F sc__law_few rfl fun cdv A outer s H E G b ds hr hl hS => ?_
  have hS : ds = [] := hS
  subst hS
  have nd := sc__law_few.nd
  refine s_cons (s_setP (i := 1) (P := fun d => ∃ p : Int, d = .int p ∧ 2 < p ∧ p ≤ 10007) nd rfl (.inl rfl) (lt_ rfl) (x_callB (Ps := fun ds => ds = [.lst [.int 3, .int 5, .int 7, .int 11, .int 101, .int 10007]]) c_law_pick hr (pv 0) rfl (a_cons (x_frz (x_lst (a_cons x_int (a_cons x_int (a_cons x_int (a_cons x_int (a_cons x_int (a_cons x_int a_nil)))))))) a_nil) (fun ds e => ⟨by rw [e]; rfl, ⟨_, e, by decide, by decide⟩, fun d ⟨l, e', h⟩ => ?_⟩))) ?_
  · rw [e] at e'
    cases e'
    simp only [List.mem_cons, List.not_mem_nil, or_false] at h
    rcases h with rfl | rfl | rfl | rfl | rfl | rfl <;> exact ⟨_, rfl, by decide, by decide⟩
  rintro _ ⟨_, ⟨p, rfl, p2, p3⟩, rfl⟩
  refine s_cons (s_setP (i := 2) (P := IntR 1 (min 5 (p - 1) + 1)) nd rfl (.inl rfl) (lt_ rfl) (x_weak (x_addR (l1 := 1) (h1 := 2) (x_weak x_int fun d e => ⟨1, e, by decide, by decide⟩) (x_draw (R := IntR 0 (min 5 (p - 1))) c_law_draw (hr.mono (by decide)) (pv 0) rfl (x_min rfl rfl B.min x_int (x_sub (x_of (pv 1) rfl) x_int)) (fun d e => ⟨_, e, by split <;> omega, fun d' ⟨i, e, h1, h2⟩ => ⟨i, e, h1, by split at h2 <;> omega⟩⟩))) fun d ⟨i, e, h1, h2⟩ => ⟨i, e, by omega, by omega⟩)) ?_
  rintro _ ⟨_, ⟨n, rfl, n0, n1⟩, rfl⟩
  have hn5 : n ≤ 5 := by omega
  have hnp : n ≤ p - 1 := by omega
  refine s_one (s_ret (x_tupP (P := fun ds => ∃ t, ds = [.str "setting", .int p, .int n, .int t] ∧ 0 ≤ t ∧ t < (n + 1) / 2) (a_consP (P := fun d => d = .str "setting") (Ps := fun ds => ∃ t, ds = [.int p, .int n, .int t] ∧ 0 ≤ t ∧ t < (n + 1) / 2) x_str (a_consP (P := fun d => d = .int p) (Ps := fun ds => ∃ t, ds = [.int n, .int t] ∧ 0 ≤ t ∧ t < (n + 1) / 2) (x_of (pv 1) rfl) (a_consP (P := fun d => d = .int n) (Ps := fun ds => ∃ t, ds = [.int t] ∧ 0 ≤ t ∧ t < (n + 1) / 2) (x_of (pv 2) rfl) (a_consP (P := IntR 0 ((n + 1) / 2)) (Ps := fun ds => ds = []) (x_draw c_law_draw (hr.mono (by decide)) (pv 0) rfl (x_fdiv ⟨by decide, by decide⟩ (x_add (x_of (pv 2) rfl) x_int) x_int) (fun d e => ⟨_, e, by omega, fun d' h => h⟩)) a_nil (fun d ds ⟨t, e, h1, h2⟩ k => ⟨t, by rw [e, k], h1, h2⟩)) (fun d ds e ⟨t, k, h⟩ => ⟨t, by rw [e, k], h⟩)) (fun d ds e ⟨t, k, h⟩ => ⟨t, by rw [e, k], h⟩)) (fun d ds e ⟨t, k, h⟩ => ⟨t, by rw [e, k], h⟩)) (fun ds ⟨t, e, t0, t1⟩ => ⟨by rw [e]; exact le_ rfl, ?_⟩)))
  obtain ⟨n', rfl⟩ := Int.eq_ofNat_of_zero_le (show 0 ≤ n by omega)
  obtain ⟨t', rfl⟩ := Int.eq_ofNat_of_zero_le t0
  exact ⟨⟨p, n', t'⟩, by rw [e]; rfl, ⟨p2, p3, by show 1 ≤ n'; omega, by show n' ≤ 5; omega, by show ((n' : Nat) : Int) < p; omega, by show 2 * t' + 1 ≤ n'; omega⟩⟩
abbrev s__law_turned : Stmt := top 79
abbrev N__law_turned : List Str := ["_law_box", "_law_things", "_law_left", "_law_found", "_law_turn", "_law_place"]
theorem sc__law_turned : FnScope N__law_turned ["_law_box", "_law_things"] (defScope s__law_turned) := ⟨rfl, rfl, rfl, by decide +kernel, rfl, by decide +kernel, by decide +kernel⟩
theorem ok_law_turned (B : Bt mg) (c_law_draw : Glo P w K mg base "_law_draw" 1 ["_law_box", "_law_many"] (spB K C 1 PreDraw PostDraw)) (F : Fun K "_law_turned" "_law_turned" s__law_turned g fd) : FnOk P w K mg base CX0 2 g fd ["_law_box", "_law_things"] (spBN K C 1 PreTurn PostTurn) := by
  refine fn_BN F sc__law_turned rfl fun cdv A outer s H E G b ds hr hl hS => ?_
  obtain ⟨l, rfl, hz⟩ := hS
  have nd := sc__law_turned.nd
  refine s_seq (s_setN (i := 2) nd rfl (.inl rfl) (lt_ rfl) (x_list rfl B.list (o_l (o_lst (x_of (pv 1) rfl)))) rfl) ?_
  refine s_seq (s_setN (i := 3) nd rfl (.inl rfl) (lt_ rfl) (x_lst a_nil) rfl) ?_
  refine s_cons (N1 := fun e => ∃ L Fd v4 v5, e = [.pin b, .dat (.lst l), .own L, .own Fd, v4, v5] ∧ Fd.Perm l) (s_forr (lo := 0) (n := l.length) (j := 4) (fun i e => ∃ L Fd v4 v5, e = [.pin b, .dat (.lst l), .own L, .own Fd, v4, v5] ∧ (L ++ Fd).Perm l ∧ Fd.length = i) PassesOwn.never rfl (i_rng1 (by omega) rfl B.range (x_len rfl B.len (o_l (o_lst (x_of (pv 1) rfl))))) (pg_name (i := 4) nd rfl (.inl rfl)) ?_ ?_ ?_ ?_) ?_
  · exact ⟨l, [], .no, .no, rfl, by rw [List.append_nil], rfl⟩
  · rintro i _ ⟨L, Fd, v4, v5, rfl, _⟩; exact lt_ rfl
  · rintro i _ hi ⟨L, Fd, v4, v5, rfl, hp, hf⟩
    have hlen := hp.length_eq
    rw [List.length_append, hf] at hlen
    have hL : 0 < L.length := by omega
    refine s_cons (s_setP (i := 5) (P := IntR 0 (L.length : Int)) nd rfl (.inl rfl) (lt_ rfl) (x_draw c_law_draw hr (pv 0) rfl (x_len rfl B.len (o_l (o_own (pv 2) rfl))) (fun d e => ⟨_, e, by omega, fun d' h => h⟩))) ?_
    rintro _ ⟨_, ⟨j, rfl, j0, j1⟩, rfl⟩
    obtain ⟨k, rfl⟩ := Int.eq_ofNat_of_zero_le j0
    have hk : k < L.length := by omega
    have hk' : L[k]? = some L[k] := List.getElem?_eq_getElem hk
    refine s_seq (s_app (d := L[k]) (pv 3) rfl (lt_ rfl) (by omega) (x_ix (o_l (o_own (pv 2) rfl)) (x_of (pv 5) rfl) (atI_nat hk')) rfl) ?_
    have e1 : cutD L none (some ((k : Nat) : Int)) = L.take k := cutD_to _ _
    have e2 : cutD L (some (((k : Nat) : Int) + 1)) none = L.drop (k + 1) := by
      have := cutD_from L (k + 1)
      rwa [show ((k + 1 : Nat) : Int) = ((k : Nat) : Int) + 1 by omega] at this
    refine s_one (s_weak (s_setN (i := 2) (ds := L.take k ++ L.drop (k + 1)) nd rfl (.inl rfl) (lt_ rfl) (x_catl (by rw [List.length_take, List.length_drop]; omega) (q_new (x_eqN (x_sll (o_own (pv 2) rfl) p_no (p_int (x_of (pv 5) rfl))) e1)) (q_new (x_eqN (x_sll (o_own (pv 2) rfl) (p_int (x_add (x_of (pv 5) rfl) x_int)) p_no) e2))) rfl) ?_)
    rintro _ rfl
    refine ⟨L.take k ++ L.drop (k + 1), Fd ++ [L[k]], .dat (.int (0 + (i : Nat))), .dat (.int ((k : Nat) : Int)), rfl, ?_, by rw [List.length_append, hf]; rfl⟩
    refine List.Perm.trans ?_ hp
    have sp := (split_at hk').1
    have p1 : (L.take k ++ L.drop (k + 1) ++ (Fd ++ [L[k]])).Perm (L[k] :: (L.take k ++ L.drop (k + 1)) ++ Fd) := by
      refine (List.Perm.append_left _ List.perm_append_comm).trans ?_
      show (L.take k ++ L.drop (k + 1) ++ (L[k] :: Fd)).Perm _
      exact List.perm_middle
    refine p1.trans (List.Perm.append_right _ ?_)
    conv => rhs; rw [sp]
    exact List.perm_middle.symm
  · rintro _ ⟨L, Fd, v4, v5, rfl, hp, hf⟩
    have hlen := hp.length_eq
    rw [List.length_append, hf] at hlen
    have : L = [] := List.eq_nil_of_length_eq_zero (by omega)
    subst this
    exact ⟨[], Fd, v4, v5, rfl, hp⟩
  · rintro _ ⟨L, Fd, v4, v5, rfl, hp⟩
    refine s_one (ps_imp (s_retO (N := fun _ => False) (pv 3) rfl) fun Dn σ H ⟨G, rp, hn, hr⟩ => ⟨G, rp, fun _ _ _ _ f => f.elim, fun v H' q => hr v H' ?_⟩)
    obtain ⟨p, xs, ds, G', h1, h2, h3, h4, h5, h6, h7, h8⟩ := q
    exact ⟨p, xs, ds, G', h1, h2, h3, h4, h5, h6, ⟨l, rfl, by rw [h7]; exact hp⟩, h8⟩
end
end Un
set_option maxHeartbeats 4000000
namespace Un
open PySem L2
def PostWa (ds : List D) (d : D) : Prop := ∃ (se : Se) (rows : List Row) (ws : List (List Nat)), ds = [se.d, progD rows] ∧ d = watD ws ∧ (∀ k, k < rows.length → epochM rows k < ws.length) ∧ (∀ l ∈ ws, l.length ≤ 100 ∧ ∀ i ∈ l, 1 ≤ i ∧ i ≤ se.n) ∧ ws.length ≤ 100
section
variable {P : Program} {w : World} {K : PySem.W.Frag} {mg : Str → Option Value} {base : Heap} {C : Addr} {g : Addr} {fd : FuncData}
abbrev s__law_inputs : Stmt := top 68
abbrev N__law_inputs : List Str := ["_law_box", "_law_setting", "_law_program_here", "_law_row"]
theorem sc__law_inputs : FnScope N__law_inputs ["_law_box", "_law_setting", "_law_program_here"] (defScope s__law_inputs) := ⟨rfl, rfl, rfl, by decide +kernel, rfl, by decide +kernel, by decide +kernel⟩
theorem ok_law_inputs (B : Bt mg) (c_law_numbers : Glo P w K mg base "_law_numbers" 3 ["_law_box", "_law_p", "_law_many"] (spB K C 2 PreNums PostNums)) (F : Fun K "_law_inputs" "_law_inputs" s__law_inputs g fd) : FnOk P w K mg base CX0 4 g fd ["_law_box", "_law_setting", "_law_program_here"] (spB K C 2 PreIn PostIn) := by
  refine fn_B F sc__law_inputs rfl fun cdv A outer s H E G b ds hr hl hS => ?_
  obtain ⟨se, rows, rfl, sok, hz, h0⟩ := hS
  have nd := sc__law_inputs.nd
  have p2 := sok.p2
  have hin : inN rows ≤ 60 := Nat.le_trans (List.length_filter_le _ _) hz
  refine s_one (s_ret (x_callB (Ps := fun ds => ds = [.int se.p, .int (inN rows : Nat)]) c_law_numbers hr (pv 0) rfl (a_cons (x_ixt (x_of (pv 1) rfl) x_int rfl) (a_cons (x_eq (x_len rfl B.len (o_l (o_new (x_lcm (l := rows) (h := Row.d) (fun r => decide (r.tag = 0)) Row.d (j := 3) rfl nd (lt_ rfl) (by omega) (i_s (i_tup (x_ixt (x_of (pv 2) rfl) x_int rfl))) (blkOk_by (N := N__law_inputs) (sc := defScope s__law_inputs) (by decide +kernel)) (fun _ _ _ _ _ => pg_name (i := 3) nd rfl (.inl rfl))
      (fun r hr' _ _ _ _ _ => ts_one (t_is (t_cmp op_eq rd_eqS (x_ixt (x_of (pv 3) rfl) x_int (at0 _ _)) x_str (nomark _)) (k_is0 _)))
      (fun a ha hb _ _ _ _ _ => (x_of (pv 3) rfl)))))) (by rw [List.length_map]; rfl)) a_nil)) (fun ds e => ⟨by rw [e]; rfl, ⟨se.p, inN rows, e, by omega, by omega⟩, fun d ⟨p, m, ns, e1, e2, e3, e4⟩ => ?_⟩)))
  rw [e] at e1
  obtain ⟨q1, q2⟩ := List.cons.inj e1
  have q1 : se.p = p := D.int.inj q1
  have q2 := D.int.inj (List.cons.inj q2).1
  exact ⟨se, rows, ns, rfl, e2, by omega, q1 ▸ e4⟩
abbrev s__law_coins : Stmt := top 70
abbrev N__law_coins : List Str := ["_law_box", "_law_setting", "_law_program_here", "_law_seed", "_law_coins_here", "_law_k"]
theorem sc__law_coins : FnScope N__law_coins ["_law_box", "_law_setting", "_law_program_here"] (defScope s__law_coins) := ⟨rfl, rfl, rfl, by decide +kernel, rfl, by decide +kernel, by decide +kernel⟩
theorem coinsN_le {se : Se} (sok : se.Ok) : ∀ rows : List Row, coinsN se rows ≤ rows.length * 10
  | [] => Nat.zero_le _
  | r :: rows => by
    have h1 := coinsN_le sok rows
    have n1 := sok.n1; have n2 := sok.n2; have tn := sok.tn
    have he : eachN se.n r ≤ 5 := by unfold eachN; split <;> (try split) <;> omega
    have h2 : se.t * eachN se.n r ≤ 2 * 5 := Nat.mul_le_mul (by omega) he
    have : coinsN se (r :: rows) = se.t * eachN se.n r + coinsN se rows := by unfold coinsN; rw [List.map_cons, List.sum_cons]
    rw [this, List.length_cons]; omega
theorem ok_law_coins (B : Bt mg) (c_law_draw : Glo P w K mg base "_law_draw" 1 ["_law_box", "_law_many"] (spB K C 1 PreDraw PostDraw)) (c_law_coins_of : Glo P w K mg base "_law_coins_of" 1 ["_law_setting", "_law_program_here"] (spD K C 2 S_lcoinsof)) (F : Fun K "_law_coins" "_law_coins" s__law_coins g fd) :
    FnOk P w K mg base CX0 2 g fd ["_law_box", "_law_setting", "_law_program_here"] (spB K C 2 PreIn PostCo) := by
  refine fn_B F sc__law_coins rfl fun cdv A outer s H E G b ds hr hl hS => ?_
  obtain ⟨se, rows, rfl, sok, hz, h0⟩ := hS
  have nd := sc__law_coins.nd
  have p2 := sok.p2
  have hcl := coinsN_le sok rows
  refine s_cons (s_setP (i := 3) (P := isI) nd rfl (.inl rfl) (lt_ rfl) (x_addI (x_addI (x_weak x_int fun d e => ⟨_, e⟩) (x_mulI (by decide) (x_draw c_law_draw hr (pv 0) rfl x_int (fun d e => ⟨1000, e, by decide, fun d' h => h.isI⟩)) x_int)) (x_draw c_law_draw hr (pv 0) rfl x_int (fun d e => ⟨1000, e, by decide, fun d' h => h.isI⟩)))) ?_
  rintro _ ⟨_, ⟨z0, rfl⟩, rfl⟩
  refine s_seq (s_setN (i := 4) nd rfl (.inl rfl) (lt_ rfl) (x_lst a_nil) rfl) ?_
  refine s_cons (N1 := fun e => ∃ z ns v, e = [.pin b, .dat se.d, .dat (progD rows), .dat (.int z), .own (inz ns), v] ∧ ns.length = coinsN se rows ∧ Rz se.p ns) (s_forr (lo := 0) (n := coinsN se rows) (j := 5) (fun i e => ∃ z ns v, e = [.pin b, .dat se.d, .dat (progD rows), .dat (.int z), .own (inz ns), v] ∧ ns.length = i ∧ Rz se.p ns) PassesOwn.never rfl (i_rng1 (by omega) rfl B.range (x_call c_law_coins_of hr (a_cons (x_of (pv 1) rfl) (a_cons (x_of (pv 2) rfl) a_nil)) ⟨rfl, se, rows, rfl, sok, hz, rfl⟩)) (pg_name (i := 5) nd rfl (.inl rfl)) ?_ ?_ ?_ ?_) ?_
  · exact ⟨z0, [], .no, rfl, rfl, fun z h => by cases h⟩
  · rintro i _ ⟨z, ns, v, rfl, _⟩; exact lt_ rfl
  · rintro i _ hi ⟨z, ns, v, rfl, hn, hzz⟩
    refine s_seq (s_set (i := 3) nd rfl (.inl rfl) (lt_ rfl) (x_mod (by decide) (x_inti rfl B.int (x_add (x_mul (.inr ⟨by decide, by decide⟩) (x_of (pv 3) rfl) x_int) x_int)) x_int) rfl) ?_
    refine s_one (s_weak (s_app (pv 4) rfl (lt_ rfl) (by rw [List.length_map]; omega) (x_mod (by omega) (x_inti rfl B.int (x_fdiv ⟨by decide, by decide⟩ (x_of (pv 3) rfl) x_int)) (x_ixt (x_of (pv 1) rfl) x_int rfl)) rfl) ?_)
    rintro _ rfl
    refine ⟨(z * 16807 + 7) % 2147483647, ns ++ [((z * 16807 + 7) % 2147483647 / 997) % se.p], .dat (.int (0 + (i : Nat))), by simp only [inz, List.map_append]; rfl, by rw [List.length_append, hn]; rfl, fun y hy => ?_⟩
    rcases List.mem_append.mp hy with hy | hy
    · exact hzz y hy
    · rw [List.mem_singleton.mp hy]; exact ⟨Int.emod_nonneg _ (by omega), Int.emod_lt_of_pos _ (by omega)⟩
  · rintro _ h; exact h
  · rintro _ ⟨z, ns, v, rfl, hn, hzz⟩
    exact s_one (s_ret (x_weak (x_tuple rfl B.tuple (o_own (pv 4) rfl)) fun d e => ⟨se, rows, ns, rfl, e, hn, hzz⟩))
abbrev s__law_watchers : Stmt := top 67
abbrev N__law_watchers : List Str := ["_law_box", "_law_setting", "_law_program_here", "_law_found", "_law_epoch", "_law_some", "_law_turn", "_law_party"]
theorem sc__law_watchers : FnScope N__law_watchers ["_law_box", "_law_setting", "_law_program_here"] (defScope s__law_watchers) := ⟨rfl, rfl, rfl, by decide +kernel, rfl, by decide +kernel, by decide +kernel⟩
theorem epoch_mono (rows : List Row) {i j : Nat} (h : i ≤ j) : epochM rows i ≤ epochM rows j := by
  unfold epochM
  have e : rows.take (i + 1) = (rows.take (j + 1)).take (i + 1) := by rw [List.take_take, Nat.min_eq_left (by omega)]
  rw [e]
  exact (List.Sublist.filter _ (List.take_sublist _ _)).length_le
theorem atI_lastR {n : Nat} (h : 0 < n) (f : Nat → D) : atI ((List.range n).map f) (-1) = some (f (n - 1)) := by
  obtain ⟨m, rfl⟩ : ∃ m, n = m + 1 := ⟨n - 1, by omega⟩
  rw [List.range_succ, List.map_append]
  exact atI_last _ _
theorem ok_law_watchers (B : Bt mg) (c_law_draw : Glo P w K mg base "_law_draw" 1 ["_law_box", "_law_many"] (spB K C 1 PreDraw PostDraw)) (c_law_epochs : Glo P w K mg base "_law_epochs" 1 ["_law_program_here"] (spN K C 1 S_lepochs)) (F : Fun K "_law_watchers" "_law_watchers" s__law_watchers g fd) :
    FnOk P w K mg base CX0 2 g fd ["_law_box", "_law_setting", "_law_program_here"] (spB K C 2 PreIn PostWa) := by
  refine fn_B F sc__law_watchers rfl fun cdv A outer s H E G b ds hr hl hS => ?_
  obtain ⟨se, rows, rfl, sok, hz, h0⟩ := hS
  have nd := sc__law_watchers.nd
  have n1 := sok.n1; have n2 := sok.n2; have tn := sok.tn
  have hep : epochM rows (rows.length - 1) ≤ 60 := Nat.le_trans (List.length_filter_le _ _) (by rw [List.length_take]; omega)
  let WO : List (List Nat) → Prop := fun ws => ∀ l ∈ ws, l.length ≤ 100 ∧ ∀ i ∈ l, 1 ≤ i ∧ i ≤ se.n
  refine s_seq (s_setN (i := 3) nd rfl (.inl rfl) (lt_ rfl) (x_lst a_nil) rfl) ?_
  refine s_cons (N1 := fun e => ∃ ws v4 v5 v6 v7, e = [.pin b, .dat se.d, .dat (progD rows), .own (ws.map fun l => .tup (natz l)), v4, v5, v6, v7] ∧ ws.length = epochM rows (rows.length - 1) + 1 ∧ WO ws) (s_forr (lo := 0) (n := epochM rows (rows.length - 1) + 1) (j := 4) (fun i e => ∃ ws v4 v5 v6 v7, e = [.pin b, .dat se.d, .dat (progD rows), .own (ws.map fun l => .tup (natz l)), v4, v5, v6, v7] ∧ ws.length = i ∧ WO ws) PassesOwn.never rfl (i_rng1 (by omega) rfl B.range (x_eq (x_add (x_ix (o_l (o_new (x_callN c_law_epochs hr (a_cons (x_of (pv 2) rfl) a_nil) ⟨rfl, rows, rfl, by omega, rfl⟩))) (x_neg x_int) (atI_lastR h0 _)) x_int) (by push_cast; rfl))) (pg_name (i := 4) nd rfl (.inl rfl)) ?_ ?_ ?_ ?_) ?_
  · exact ⟨[], .no, .no, .no, .no, rfl, rfl, fun l h => by cases h⟩
  · rintro i _ ⟨ws, v4, v5, v6, v7, rfl, _⟩; exact lt_ rfl
  · rintro i _ hi ⟨ws, v4, v5, v6, v7, rfl, hw, hws⟩
    refine s_seq (s_setN (i := 5) nd rfl (.inl rfl) (lt_ rfl) (x_lst a_nil) rfl) ?_
    refine s_cons (N1 := fun e => ∃ so v6 v7, e = [.pin b, .dat se.d, .dat (progD rows), .own (ws.map fun l => .tup (natz l)), .dat (.int (0 + (i : Nat))), .own (natz so), v6, v7] ∧ so.length ≤ 3 ∧ ∀ i ∈ so, 1 ≤ i ∧ i ≤ se.n)
      (s_forP (j := 6) (P := fun ds => ∃ n, n ≤ 3 ∧ ds = rngD 0 n) (fun ds m e => ∃ so v6 v7, e = [.pin b, .dat se.d, .dat (progD rows), .own (ws.map fun l => .tup (natz l)), .dat (.int (0 + (i : Nat))), .own (natz so), v6, v7] ∧ so.length ≤ m ∧ ∀ i ∈ so, 1 ≤ i ∧ i ≤ se.n) PassesOwn.never rfl (i_rng1P (P := IntR 0 ((se.t : Int) + 1)) rfl B.range (x_draw c_law_draw hr (pv 0) rfl (x_add (x_ixt (x_of (pv 1) rfl) x_int rfl) x_int) (fun d e => ⟨_, e, by omega, fun d' h => h⟩)) (fun d ⟨z, e, z0, z1⟩ => ⟨z.toNat, by rw [Int.toNat_of_nonneg z0]; exact e, by omega, z.toNat, by omega, rfl⟩)) (pg_name (i := 6) nd rfl (.inl rfl)) ?_ ?_ ?_ ?_) ?_
    · rintro ds _; exact ⟨[], v6, v7, rfl, Nat.zero_le _, fun i h => by cases h⟩
    · rintro ds m _ ⟨so, v6, v7, rfl, _⟩; exact lt_ rfl
    · rintro ds m d _ ⟨n, hn, rfl⟩ hd ⟨so, v6, v7, rfl, hso, hmem⟩
      obtain ⟨hm, rfl⟩ := rngD_get hd
      refine s_cons (s_setP (i := 7) (P := IntR 1 ((se.n : Int) + 1)) nd rfl (.inl rfl) (lt_ rfl) (x_weak (x_addR (l1 := 1) (h1 := 2) (x_weak x_int fun d e => ⟨1, e, by decide, by decide⟩) (x_draw (R := IntR 0 (se.n : Int)) c_law_draw hr (pv 0) rfl (x_ixt (x_of (pv 1) rfl) x_int rfl) (fun d e => ⟨_, e, by omega, fun d' h => h⟩))) fun d ⟨i, e, h1, h2⟩ => ⟨i, e, by omega, by omega⟩)) ?_
      rintro _ ⟨_, ⟨z, rfl, z0, z1⟩, rfl⟩
      obtain ⟨y, rfl⟩ := Int.eq_ofNat_of_zero_le (show 0 ≤ z by omega)
      refine s_one (s_if (t_nin (x_of (pv 7) rfl) (o_l (o_own (pv 5) rfl)) rfl (nat_flat _)) (fun hc => ?_) (fun hc => ?_))
      · refine s_one (s_weak (s_app (d := .int (y : Int)) (pv 5) rfl (lt_ rfl) (by unfold natz; rw [List.length_map]; omega) (x_of (pv 7) rfl) rfl) ?_)
        rintro _ rfl
        refine ⟨so ++ [y], .dat (.int (0 + (m : Nat))), .dat (.int (y : Int)), by unfold natz; rw [List.map_append]; rfl, by rw [List.length_append, List.length_singleton]; omega, fun x hx => ?_⟩
        rcases List.mem_append.mp hx with hx | hx
        · exact hmem x hx
        · rw [List.mem_singleton.mp hx]; omega
      · exact s_nil ⟨so, .dat (.int (0 + (m : Nat))), .dat (.int (y : Int)), rfl, by omega, hmem⟩
    · rintro ds _ ⟨n, hn, rfl⟩ ⟨so, v6, v7, rfl, hso, hmem⟩
      rw [rngD_len] at hso
      exact ⟨so, v6, v7, rfl, by omega, hmem⟩
    · rintro _ ⟨so, v6, v7, rfl, hso, hmem⟩
      have hsz : natz so = inz (so.map fun (x : Nat) => ((x : Nat) : Int)) := by unfold natz inz; rw [List.map_map]; rfl
      refine s_one (s_weak (s_appP (P := fun d => ∃ l : List Nat, d = .tup (natz l) ∧ l.length ≤ 100 ∧ ∀ i ∈ l, 1 ≤ i ∧ i ≤ se.n) (pv 3) rfl (lt_ rfl) (by rw [List.length_map]; omega) (x_tupleNP (P := fun acc => ∃ l : List Nat, acc = natz l ∧ l.length ≤ 100 ∧ ∀ i ∈ l, 1 ≤ i ∧ i ≤ se.n) rfl B.tuple (x_sorted (ns := so.map fun (x : Nat) => ((x : Nat) : Int)) (by rw [List.length_map]; omega) rfl B.sorted (by rw [← hsz]; exact o_own (pv 5) rfl) (fun ms hp _ => ⟨ms.map Int.toNat, ?_, ?_, ?_⟩)) (fun ds ⟨l, e, h⟩ => ⟨l, by rw [e], h⟩))) ?_)
      · unfold natz inz
        rw [List.map_map]
        apply List.map_congr_left
        intro z hz'
        obtain ⟨x, _, rfl⟩ := List.mem_map.mp (hp.mem_iff.mp hz')
        rfl
      · rw [List.length_map, hp.length_eq, List.length_map]; omega
      · intro x hx
        obtain ⟨z, hz', rfl⟩ := List.mem_map.mp hx
        obtain ⟨y, hy, rfl⟩ := List.mem_map.mp (hp.mem_iff.mp hz')
        exact hmem y hy
      · rintro _ ⟨_, ⟨l, rfl, hl1, hl2⟩, rfl⟩
        refine ⟨ws ++ [l], .dat (.int (0 + (i : Nat))), .own (natz so), v6, v7, by rw [List.map_append]; rfl, by rw [List.length_append, hw]; rfl, fun x hx => ?_⟩
        rcases List.mem_append.mp hx with hx | hx
        · exact hws x hx
        · rw [List.mem_singleton.mp hx]; exact ⟨hl1, hl2⟩
  · rintro _ h; exact h
  · rintro _ ⟨ws, v4, v5, v6, v7, rfl, hw, hws⟩
    exact s_one (s_ret (x_weak (x_tuple rfl B.tuple (o_own (pv 3) rfl)) fun d e => ⟨se, rows, ws, rfl, e, fun k hk => by
      have := epoch_mono rows (show k ≤ rows.length - 1 by omega); omega, hws, by omega⟩))
end
end Un
set_option maxHeartbeats 4000000
namespace Un
open PySem L2
theorem pure_natz : ∀ l : List Nat, pureDs (natz l) = true
  | [] => by simp [natz, pureDs]
  | n :: l => by show pureDs (.int (n : Int) :: natz l) = true; unfold pureDs; rw [pure_natz l]; rfl
theorem lay_natz : ∀ l : List Nat, PyData.canLayAll0 (pysD (natz l)) = true
  | [] => by simp [natz, pysD, PyData.canLayAll0]
  | n :: l => by
    show PyData.canLayAll0 (pysD (.int (n : Int) :: natz l)) = true
    unfold pysD; unfold PyData.canLayAll0; rw [lay_natz l]; rfl
theorem dep_natz : ∀ l : List Nat, PyData.depthAll (pysD (natz l)) = 0
  | [] => by simp [natz, pysD, PyData.depthAll]
  | n :: l => by
    show PyData.depthAll (pysD (.int (n : Int) :: natz l)) = 0
    unfold pysD; unfold PyData.depthAll; rw [dep_natz l]; rfl
theorem natz_ok (l : List Nat) : eqOk (.lst (natz l)) := ⟨by unfold pureD; exact pure_natz l, by
  unfold pyD SeqAt.shaped
  rw [show PyData.canLay0 (PyData.list (pysD (natz l))) = true by unfold PyData.canLay0; exact lay_natz l]
  have : PyData.depth (PyData.list (pysD (natz l))) ≤ 64 := by
    unfold PyData.depth
    rw [dep_natz l]; decide
  rw [decide_eq_true this]; rfl⟩
theorem natz_ne (l : List Nat) : (!PyData.eqv (pyD (.lst (natz l))) (pyD (.lst []))) = decide (l ≠ []) := by
  cases l with
  | nil => simp [natz, pyD, pysD, PyData.eqv, PyData.eqvAll]
  | cons n l => simp [natz, pyD, pysD, PyData.eqv, PyData.eqvAll]
theorem t_neD {X : Cx} {f : Fm} {δ : List Sl} {a b : Expr} {pos : Pos} {d e : D} (hu : X.A.units + 64 < cLine) (ha : PE X a (tD X.K f δ d)) (hb : PE X b (tD X.K f δ e)) (h1 : eqOk d) (h2 : eqOk e) : PT X (.Compare a [.NotEq] [b] pos) (tBo X.K f δ (!PyData.eqv (pyD d) (pyD e))) :=
  t_cmp (op_neD hu) (fun σ δ G H x y Q rp z1 z2 q => ⟨_, _, dat_dp h1.1 (z1.mono rp.gh), dat_dp h2.1 (z2.mono rp.gh), h1.2, h2.2, q _ G H (Step.refl rp.gh) dat_bl⟩) ha hb (nomark _)
/-- a row that may come next -/
structure GoodR (se : Se) (rows : List Row) (r : Row) : Prop where
  ok : RowOk se rows.length r
  wire : ∀ a ∈ r.named, ∃ r', rows[a]? = some r' ∧ hasP r'
def WiresOk (rows : List Row) (ws : List Nat) : Prop := ws.length ≤ rows.length ∧ ∀ a ∈ ws, ∃ r', rows[a]? = some r' ∧ hasP r'
theorem prog_snoc {se : Se} {rows : List Row} (po : ProgOk se rows) {r : Row} (g : GoodR se rows r) (hl : rows.length < 60) : ProgOk se (rows ++ [r]) := by
  have app : ∀ {a : Nat} {r' : Row}, rows[a]? = some r' → (rows ++ [r])[a]? = some r' := fun {a r'} h => by
    rw [List.getElem?_append_left (List.getElem?_eq_some_iff.mp h).1]; exact h
  have inv : ∀ {k : Nat} {x : Row}, (rows ++ [r])[k]? = some x → rows[k]? = some x ∨ (k = rows.length ∧ x = r) := fun {k x} h => by
    by_cases e : k < rows.length
    · rw [List.getElem?_append_left e] at h; exact .inl h
    · rw [List.getElem?_append_right (by omega)] at h
      have : k - rows.length = 0 := by
        cases q : k - rows.length with
        | zero => rfl
        | succ m => rw [q] at h; cases h
      rw [this] at h
      exact .inr ⟨by omega, (Option.some.inj h).symm⟩
  refine ⟨⟨by rw [List.length_append, List.length_singleton]; omega, fun k x h => ?_⟩, fun k x h a ha => ?_⟩
  · rcases inv h with h | ⟨rfl, rfl⟩
    · exact po.rws.2 k x h
    · exact g.ok
  · rcases inv h with h | ⟨rfl, rfl⟩
    · obtain ⟨r', h1, h2⟩ := po.wire k x h a ha
      exact ⟨r', app h1, h2⟩
    · obtain ⟨r', h1, h2⟩ := g.wire a ha
      exact ⟨r', app h1, h2⟩
theorem wires_snoc {rows : List Row} {ws : List Nat} (h : WiresOk rows ws) (r : Row) : WiresOk (rows ++ [r]) ws := ⟨by rw [List.length_append]; have := h.1; omega, fun a ha => by
  obtain ⟨r', h1, h2⟩ := h.2 a ha
  exact ⟨r', by rw [List.getElem?_append_left (List.getElem?_eq_some_iff.mp h1).1]; exact h1, h2⟩⟩
theorem wires_lt {rows : List Row} {ws : List Nat} (h : WiresOk rows ws) {a : Nat} (ha : a ∈ ws) : a < rows.length := by
  obtain ⟨r', h1, _⟩ := h.2 a ha
  exact (List.getElem?_eq_some_iff.mp h1).1
def PreProg (ds : List D) : Prop := ∃ (se : Se) (m : Nat) (z : Int), ds = [se.d, .int (m : Int), .int z] ∧ se.Ok ∧ 0 < m ∧ m ≤ 60
def PostProg (ds : List D) (d : D) : Prop := ∃ (se : Se) (m : Nat) (z : Int) (rows : List Row), ds = [se.d, .int (m : Int), .int z] ∧ d = progD rows ∧ ProgOk se rows ∧ 0 < rows.length ∧ rows.length ≤ m
theorem natz_mem {d : D} {l : List Nat} (h : d ∈ natz l) : ∃ a : Nat, d = .int (a : Int) ∧ a ∈ l := by
  obtain ⟨a, ha, rfl⟩ := List.mem_map.mp h
  exact ⟨a, rfl, ha⟩
section
variable {P : Program} {w : World} {K : PySem.W.Frag} {mg : Str → Option Value} {base : Heap} {C : Addr} {g : Addr} {fd : FuncData}
theorem x_pickW {X : Cx} {C b : Addr} {G0 H0 : Hp} {δ : List Sl} {i : Nat} {x : Str} {p pos : Pos} {e0 e : Expr} {ws : List Nat} (c : Glo X.prog X.w X.K X.mg X.base x 2 ["_law_box", "_law_things"] (spB X.K C 1 PrePick PostPick)) (hr : Room 2 X.A) (h0 : PE X e0 (tVar i)) (hd : dAt δ i = .pin b) (ha : PE X e (tD X.K (bF X.K C b G0 H0) δ (.lst (natz ws)))) (hn : 0 < ws.length) (hz : ws.length ≤ 1000)
    (hg : Gl X x := by rfl) (hdb : (x == ("__debug__" : Str)) = false := by decide) (he : starEach (e0 :: [e]) X.env = (false, eval e0 X.env) :: starEach [e] X.env := by rfl) (he2 : starEach (e :: []) X.env = (false, eval e X.env) :: starEach [] X.env := by rfl) (hpl : (backTo pos (starEach [e] X.env)).any (·.1) = false := by rfl) :
    PE X (.Call (.Name x p) (e0 :: [e]) [] pos) (tP X.K (bF X.K C b G0 H0) δ fun d => ∃ a : Nat, d = .int (a : Int) ∧ a ∈ ws) :=
  x_callB (Ps := fun ds => ds = [.lst (natz ws)]) c hr h0 hd (a_consP ha a_nil (fun d ds h e => by rw [e, h]) he2) (fun ds e => ⟨by rw [e]; rfl, ⟨_, e, by unfold natz; rw [List.length_map]; exact hn, by unfold natz; rw [List.length_map]; exact hz⟩, fun d ⟨l, e', h⟩ => by
    rw [e] at e'
    cases e'
    exact natz_mem h⟩) hg hdb he hpl
abbrev s__law_program : Stmt := top 65
abbrev N__law_program : List Str := ["_law_box", "_law_setting", "_law_most", "_law_turns", "_law_p", "_law_n", "_law_t", "_law_rows", "_law_wires", "_law_before", "_law_k", "_law_kind", "_law_row", "_law_a", "_law_b"]
theorem sc__law_program : FnScope N__law_program ["_law_box", "_law_setting", "_law_most", "_law_turns"] (defScope s__law_program) := ⟨rfl, rfl, rfl, by decide +kernel, rfl, by decide +kernel, by decide +kernel⟩
theorem ok_law_program (B : Bt mg) (c_law_draw : Glo P w K mg base "_law_draw" 1 ["_law_box", "_law_many"] (spB K C 1 PreDraw PostDraw)) (c_law_pick : Glo P w K mg base "_law_pick" 2 ["_law_box", "_law_things"] (spB K C 1 PrePick PostPick)) (c_law_number : Glo P w K mg base "_law_number" 2 ["_law_box", "_law_p"] (spB K C 1 PreNum PostNum))
    (F : Fun K "_law_program" "_law_program" s__law_program g fd) : FnOk P w K mg base CX0 3 g fd ["_law_box", "_law_setting", "_law_most", "_law_turns"] (spB K C 3 PreProg PostProg) := by
  refine fn_B F sc__law_program rfl fun cdv A outer s H E G b ds hr hl hS => ?_
  obtain ⟨se, most, z0, rfl, sok, hm0, hm⟩ := hS
  have nd := sc__law_program.nd
  have n1 := sok.n1; have n2 := sok.n2; have p2 := sok.p2; have p3 := sok.p3
  have hu : (bX P w K mg base N__law_program "_law_program" s__law_program g cdv A outer s H E).A.units + 64 < cLine := hr.units
  refine s_seq (s_unpack (is := [4, 5, 6]) (ds := [.int se.p, .int (se.n : Int), .int (se.t : Int)]) (δ1 := [.pin b, .dat se.d, .dat (.int (most : Int)), .dat (.int z0), .dat (.int se.p), .dat (.int (se.n : Int)), .dat (.int (se.t : Int)), .no, .no, .no, .no, .no, .no, .no, .no]) rfl (x_eq (x_sl (x_of (pv 1) rfl) (p_int x_int) p_no) (congrArg D.tup (cut_se se))) (pgs_cons (pg_name (i := 4) nd rfl (.inl rfl)) (pgs_cons (pg_name (i := 5) nd rfl (.inl rfl)) (pgs_cons (pg_name (i := 6) nd rfl (.inl rfl)) pgs_nil))) (all_lt rfl) rfl rfl) ?_
  refine s_seq (s_setN (i := 7) nd rfl (.inl rfl) (lt_ rfl) (x_lst a_nil) rfl) ?_
  refine s_seq (s_set (i := 8) (d := .lst (natz [])) nd rfl (.inl rfl) (lt_ rfl) (x_frz (x_lst a_nil)) rfl) ?_
  refine s_seq (s_set (i := 9) (d := .lst (natz [])) nd rfl (.inl rfl) (lt_ rfl) (x_frz (x_lst a_nil)) rfl) ?_
  let St0 : List Row → List Nat → List Nat → Int → Sl → Sl → Sl → Sl → Sl → List Sl := fun rows ws bf z v10 v11 v12 v13 v14 => [.pin b, .dat se.d, .dat (.int (most : Int)), .dat (.int z), .dat (.int se.p), .dat (.int (se.n : Int)), .dat (.int (se.t : Int)), .own (rows.map Row.d), .dat (.lst (natz ws)), .dat (.lst (natz bf)), v10, v11, v12, v13, v14]
  refine s_cons (N1 := fun e => ∃ rows ws bf z v10 v11 v12 v13 v14, e = St0 rows ws bf z v10 v11 v12 v13 v14 ∧ ProgOk se rows ∧ 0 < rows.length ∧ rows.length ≤ most)
    (s_forP (j := 10) (P := fun ds => ∃ n, 0 < n ∧ n ≤ most ∧ ds = rngD 0 n) (fun ds m e => ∃ rows ws bf z v10 v11 v12 v13 v14, e = St0 rows ws bf z v10 v11 v12 v13 v14 ∧ ProgOk se rows ∧ rows.length = m ∧ WiresOk rows ws ∧ WiresOk rows bf) PassesOwn.never rfl (i_rng1P (P := IntR 1 ((most : Int) + 1)) rfl B.range (x_weak (x_addR (l1 := 1) (h1 := 2) (x_weak x_int fun d e => ⟨1, e, by decide, by decide⟩) (x_draw (R := IntR 0 (most : Int)) c_law_draw (hr.mono (by decide)) (pv 0) rfl (x_of (pv 2) rfl) (fun d e => ⟨_, e, by omega, fun d' h => h⟩))) fun d ⟨i, e, h1, h2⟩ => ⟨i, e, by omega, by omega⟩) (fun d ⟨z, e, z0, z1⟩ => ⟨z.toNat, by rw [Int.toNat_of_nonneg (by omega)]; exact e, by omega, z.toNat, by omega, by omega, rfl⟩)) (pg_name (i := 10) nd rfl (.inl rfl)) ?_ ?_ ?_ ?_) ?_
  · rintro ds _
    exact ⟨[], [], [], z0, .no, .no, .no, .no, .no, rfl, ⟨⟨Nat.zero_le _, fun k r h => by cases h⟩, fun k r h => by cases h⟩, rfl, ⟨Nat.le_refl _, fun a h => by cases h⟩, ⟨Nat.le_refl _, fun a h => by cases h⟩⟩
  · rintro ds m _ ⟨rows, ws, bf, z, v10, v11, v12, v13, v14, rfl, _⟩; exact lt_ rfl
  · rintro ds m d _ ⟨n, hn0, hn, rfl⟩ hd ⟨rows, ws, bf, z, v10, v11, v12, v13, v14, rfl, po, hlen, hws, hbf⟩
    obtain ⟨hm', rfl⟩ := rngD_get hd
    have hk60 : rows.length < 60 := by omega
    have wlen := hws.1
    have blen := hbf.1
    refine s_cons (s_setP (i := 11) (P := IntR 0 13) nd rfl (.inl rfl) (lt_ rfl) (x_draw c_law_draw (hr.mono (by decide)) (pv 0) rfl x_int (fun d e => ⟨13, e, by decide, fun d' h => h⟩))) ?_
    rintro _ ⟨_, ⟨kd, rfl, k0, k1⟩, rfl⟩
    let St : Row → Sl → Sl → List Sl := fun r v13 v14 => St0 rows ws bf z (.dat (.int (0 + (m : Nat)))) (.dat (.int kd)) (.dat r.d) v13 v14
    let Good : Row → Prop := fun r => GoodR se rows r ∧ ¬ r.tag = 7
    refine s_cons (N1 := fun e => ∃ r, e = St r v13 v14 ∧ Good r) (s_weak (s_setP (i := 12) (P := fun d => ∃ r, d = Row.d r ∧ Good r) nd rfl (.inl rfl) (lt_ rfl) (x_tupP (P := fun ds => ∃ j : Nat, ds = [.str "in", .int (j : Int)] ∧ 1 ≤ j ∧ j ≤ se.n) (a_consP (P := fun d => d = .str "in") (Ps := fun ds => ∃ j : Nat, ds = [.int (j : Int)] ∧ 1 ≤ j ∧ j ≤ se.n) x_str (a_consP (P := IntR 1 ((se.n : Int) + 1)) (Ps := fun ds => ds = []) (x_weak (x_addR (l1 := 1) (h1 := 2) (x_weak x_int fun d e => ⟨1, e, by decide, by decide⟩) (x_draw (R := IntR 0 (se.n : Int)) c_law_draw (hr.mono (by decide)) (pv 0) rfl (x_of (pv 5) rfl) (fun d e => ⟨_, e, by omega, fun d' h => h⟩))) fun d ⟨i, e, h1, h2⟩ => ⟨i, e, by omega, by omega⟩) a_nil (fun d ds ⟨i, e, h1, h2⟩ k => ⟨i.toNat, by rw [e, k, Int.toNat_of_nonneg (by omega)], by omega, by omega⟩)) (fun d ds e ⟨j, k, h⟩ => ⟨j, by rw [e, k], h⟩)) (fun ds ⟨j, e, j1, j2⟩ => ⟨by rw [e]; exact le_ rfl, .inp j, by rw [e]; rfl, ⟨⟨fun a h => (by cases h), j1, j2⟩, fun a h => by cases h⟩, by simp [Row.tag]⟩))) (by rintro _ ⟨_, ⟨r, rfl, gr⟩, rfl⟩; exact ⟨r, rfl, gr⟩)) ?_
    rintro _ ⟨r, rfl, gr⟩
    refine s_cons (N1 := fun e => ∃ r, e = St r v13 v14 ∧ Good r) (s_if (t_cmp op_eq rd_eqI (x_of (pv 11) rfl) x_int (nomark _)) (fun _ => s_one (s_weak (s_setP (i := 12) (P := fun d => ∃ r, d = Row.d r ∧ Good r) nd rfl (.inl rfl) (lt_ rfl) (x_tupP (P := fun ds => ∃ c : Int, ds = [.str "const", .int c] ∧ 0 ≤ c ∧ c < se.p) (a_consP (P := fun d => d = .str "const") (Ps := fun ds => ∃ c : Int, ds = [.int c] ∧ 0 ≤ c ∧ c < se.p) x_str (a_consP (P := IntR 0 se.p) (Ps := fun ds => ds = []) (x_callB (Ps := fun ds => ds = [.int se.p]) c_law_number hr (pv 0) rfl (a_cons (x_of (pv 4) rfl) a_nil) (fun ds e => ⟨by rw [e]; rfl, ⟨se.p, e, by omega⟩, fun d ⟨p', e', h⟩ => by rw [e] at e'; cases e'; exact h⟩)) a_nil (fun d ds ⟨i, e, h1, h2⟩ k => ⟨i, by rw [e, k], h1, h2⟩)) (fun d ds e ⟨j, k, h⟩ => ⟨j, by rw [e, k], h⟩)) (fun ds ⟨c, e, j1, j2⟩ => ⟨by rw [e]; exact le_ rfl, .const c, by rw [e]; rfl, ⟨⟨fun a h => (by cases h), j1, j2⟩, fun a h => by cases h⟩, by simp [Row.tag]⟩))) (by rintro _ ⟨_, ⟨r, rfl, gr⟩, rfl⟩; exact ⟨r, rfl, gr⟩))) (fun _ => s_nil ⟨r, rfl, gr⟩)) ?_
    rintro _ ⟨r, rfl, gr⟩
    have nil_ok : eqOk (.lst []) := natz_ok []
    have mk1 : ∀ {ws' : List Nat} {a : Nat}, WiresOk rows ws' → a ∈ ws' → a < rows.length ∧ ∃ r', rows[a]? = some r' ∧ hasP r' := fun h ha => ⟨wires_lt h ha, h.2 _ ha⟩
    refine s_cons (N1 := fun e => ∃ r v13 v14, e = St r v13 v14 ∧ Good r) (s_if (PW.pt (w_and (t_is (t_neD hu (x_of (pv 9) rfl) (x_frz (x_lst a_nil)) (natz_ok bf) nil_ok) (natz_ne bf)) fun hc => (w_and1 (t_in (x_of (pv 11) rfl) (o_tup (x_tup (a_cons x_int (a_cons x_int (a_cons x_int a_nil))))))))) (fun hc => ?_) (fun hc => ?_)) ?_
    · have hne : bf ≠ [] := of_decide_eq_true (Bool.and_eq_true_iff.mp hc).1
      refine s_one (s_weak (s_setP (i := 12) (P := fun d => ∃ r, d = Row.d r ∧ Good r) nd rfl (.inl rfl) (lt_ rfl) (x_tupP (P := fun ds => ∃ a : Nat, ds = [.str "kept", .int (a : Int)] ∧ a ∈ bf) (a_consP (P := fun d => d = .str "kept") (Ps := fun ds => ∃ a : Nat, ds = [.int (a : Int)] ∧ a ∈ bf) x_str (a_consP (Ps := fun ds => ds = []) (x_pickW c_law_pick hr (pv 0) rfl (x_of (pv 9) rfl) (List.length_pos_iff.mpr hne) (by omega)) a_nil (fun d ds ⟨a, e, h⟩ k => ⟨a, by rw [e, k], h⟩)) (fun d ds e ⟨j, k, h⟩ => ⟨j, by rw [e, k], h⟩)) (fun ds ⟨a, e, ha⟩ => ⟨by rw [e]; exact le_ rfl, .kept a, by rw [e]; rfl, ⟨⟨fun x h => by rw [List.mem_singleton.mp h]; exact (mk1 hbf ha).1, True.intro⟩, fun x h => by rw [List.mem_singleton.mp h]; exact (mk1 hbf ha).2⟩, by simp [Row.tag]⟩))) (by rintro _ ⟨_, ⟨r, rfl, gr⟩, rfl⟩; exact ⟨r, _, _, rfl, gr⟩))
    · refine s_one (s_if (t_is (t_neD hu (x_of (pv 8) rfl) (x_frz (x_lst a_nil)) (natz_ok ws) nil_ok) (natz_ne ws)) (fun hc => ?_) (fun hc => s_nil ⟨r, v13, v14, rfl, gr⟩))
      have hne : ws ≠ [] := of_decide_eq_true hc
      refine s_cons (s_setP (i := 13) nd rfl (.inl rfl) (lt_ rfl) (x_pickW c_law_pick hr (pv 0) rfl (x_of (pv 8) rfl) (List.length_pos_iff.mpr hne) (by omega))) ?_
      rintro _ ⟨_, ⟨a, rfl, ha⟩, rfl⟩
      refine s_cons (s_setP (i := 14) nd rfl (.inl rfl) (lt_ rfl) (x_pickW c_law_pick hr (pv 0) rfl (x_of (pv 8) rfl) (List.length_pos_iff.mpr hne) (by omega))) ?_
      rintro _ ⟨_, ⟨c, rfl, hc'⟩, rfl⟩
      have ab : ∀ x ∈ [a, c], x < rows.length ∧ ∃ r', rows[x]? = some r' ∧ hasP r' := fun x hx => by
        rcases List.mem_cons.mp hx with e | e
        · rw [e]; exact mk1 hws ha
        · rw [List.mem_singleton.mp e]; exact mk1 hws hc'
      let S2 : Row → List Sl := fun r => St r (.dat (.int (a : Int))) (.dat (.int (c : Int)))
      have two : ∀ r, r.named = [a, c] → (r.tag = 2 ∨ r.tag = 3 ∨ r.tag = 4) → Good r := fun r h ht => ⟨⟨⟨fun x hx => (ab x (h ▸ hx)).1, by cases r <;> first | exact True.intro | (simp [Row.tag] at ht; done)⟩, fun x hx => (ab x (h ▸ hx)).2⟩, by rcases ht with h | h | h <;> rw [h] <;> decide⟩
      refine s_cons (N1 := fun e => ∃ r, e = S2 r ∧ Good r) (s_if (t_in (x_of (pv 11) rfl) (o_tup (x_tup (a_cons x_int (a_cons x_int (a_cons x_int a_nil)))))) (fun _ => s_one (s_weak (s_set (i := 12) (d := (Row.prod a c).d) nd rfl (.inl rfl) (lt_ rfl) (x_tup (a_cons x_str (a_cons (x_of (pv 13) rfl) (a_cons (x_of (pv 14) rfl) a_nil)))) rfl) (by rintro _ rfl; exact ⟨_, rfl, two _ rfl (.inr (.inr rfl))⟩))) (fun _ => s_nil ⟨r, rfl, gr⟩)) ?_
      rintro _ ⟨r, rfl, gr⟩
      refine s_cons (N1 := fun e => ∃ r, e = S2 r ∧ Good r) (s_if (t_cmp op_eq rd_eqI (x_of (pv 11) rfl) x_int (nomark _)) (fun _ => s_one (s_weak (s_set (i := 12) (d := (Row.sum a c).d) nd rfl (.inl rfl) (lt_ rfl) (x_tup (a_cons x_str (a_cons (x_of (pv 13) rfl) (a_cons (x_of (pv 14) rfl) a_nil)))) rfl) (by rintro _ rfl; exact ⟨_, rfl, two _ rfl (.inl rfl)⟩))) (fun _ => s_nil ⟨r, rfl, gr⟩)) ?_
      rintro _ ⟨r, rfl, gr⟩
      refine s_cons (N1 := fun e => ∃ r, e = S2 r ∧ Good r) (s_if (t_cmp op_eq rd_eqI (x_of (pv 11) rfl) x_int (nomark _)) (fun _ => s_one (s_weak (s_set (i := 12) (d := (Row.less a c).d) nd rfl (.inl rfl) (lt_ rfl) (x_tup (a_cons x_str (a_cons (x_of (pv 13) rfl) (a_cons (x_of (pv 14) rfl) a_nil)))) rfl) (by rintro _ rfl; exact ⟨_, rfl, two _ rfl (.inr (.inl rfl))⟩))) (fun _ => s_nil ⟨r, rfl, gr⟩)) ?_
      rintro _ ⟨r, rfl, gr⟩
      have a1 := mk1 hws ha
      refine s_cons (N1 := fun e => ∃ r, e = S2 r ∧ Good r) (s_if (t_cmp op_eq rd_eqI (x_of (pv 11) rfl) x_int (nomark _)) (fun _ => s_one (s_weak (s_setP (i := 12) (P := fun d => ∃ r, d = Row.d r ∧ Good r) nd rfl (.inl rfl) (lt_ rfl) (x_tupP (P := fun ds => ∃ y : Int, ds = [.str "times", .int y, .int (a : Int)] ∧ 0 ≤ y ∧ y < se.p) (a_consP (P := fun d => d = .str "times") (Ps := fun ds => ∃ y : Int, ds = [.int y, .int (a : Int)] ∧ 0 ≤ y ∧ y < se.p) x_str (a_consP (P := IntR 0 se.p) (Ps := fun ds => ds = [.int (a : Int)]) (x_callB (Ps := fun ds => ds = [.int se.p]) c_law_number hr (pv 0) rfl (a_cons (x_of (pv 4) rfl) a_nil) (fun ds e => ⟨by rw [e]; rfl, ⟨se.p, e, by omega⟩, fun d ⟨p', e', h⟩ => by rw [e] at e'; cases e'; exact h⟩)) (a_cons (x_of (pv 13) rfl) a_nil) (fun d ds ⟨i, e, h1, h2⟩ k => ⟨i, by rw [e, k], h1, h2⟩)) (fun d ds e ⟨j, k, h⟩ => ⟨j, by rw [e, k], h⟩)) (fun ds ⟨y, e, j1, j2⟩ => ⟨by rw [e]; exact le_ rfl, .times y a, by rw [e]; rfl, ⟨⟨fun x h => by rw [List.mem_singleton.mp h]; exact a1.1, j1, j2⟩, fun x h => by rw [List.mem_singleton.mp h]; exact a1.2⟩, by simp [Row.tag]⟩))) (by rintro _ ⟨_, ⟨r, rfl, gr⟩, rfl⟩; exact ⟨r, rfl, gr⟩))) (fun _ => s_nil ⟨r, rfl, gr⟩)) ?_
      rintro _ ⟨r, rfl, gr⟩
      refine s_one (s_if (t_cmp op_eq rd_eqI (x_of (pv 11) rfl) x_int (nomark _)) (fun _ => s_one (s_weak (s_setP (i := 12) (P := fun d => ∃ r, d = Row.d r ∧ Good r) nd rfl (.inl rfl) (lt_ rfl) (x_tupP (P := fun ds => ∃ j : Nat, ds = [.str "out", .int (a : Int), .int (j : Int)] ∧ 1 ≤ j ∧ j ≤ se.n) (a_consP (P := fun d => d = .str "out") (Ps := fun ds => ∃ j : Nat, ds = [.int (a : Int), .int (j : Int)] ∧ 1 ≤ j ∧ j ≤ se.n) x_str (a_consP (P := fun d => d = .int (a : Int)) (Ps := fun ds => ∃ j : Nat, ds = [.int (j : Int)] ∧ 1 ≤ j ∧ j ≤ se.n) (x_of (pv 13) rfl) (a_consP (P := IntR 1 ((se.n : Int) + 1)) (Ps := fun ds => ds = []) (x_weak (x_addR (l1 := 1) (h1 := 2) (x_weak x_int fun d e => ⟨1, e, by decide, by decide⟩) (x_draw (R := IntR 0 (se.n : Int)) c_law_draw (hr.mono (by decide)) (pv 0) rfl (x_of (pv 5) rfl) (fun d e => ⟨_, e, by omega, fun d' h => h⟩))) fun d ⟨i, e, h1, h2⟩ => ⟨i, e, by omega, by omega⟩) a_nil (fun d ds ⟨i, e, h1, h2⟩ k => ⟨i.toNat, by rw [e, k, Int.toNat_of_nonneg (by omega)], by omega, by omega⟩)) (fun d ds e ⟨j, k, h⟩ => ⟨j, by rw [e, k], h⟩)) (fun d ds e ⟨j, k, h⟩ => ⟨j, by rw [e, k], h⟩)) (fun ds ⟨j, e, j1, j2⟩ => ⟨by rw [e]; exact le_ rfl, .out a j, by rw [e]; rfl, ⟨⟨fun x h => by rw [List.mem_singleton.mp h]; exact a1.1, j1, j2⟩, fun x h => by rw [List.mem_singleton.mp h]; exact a1.2⟩, by simp [Row.tag]⟩))) (by rintro _ ⟨_, ⟨r, rfl, gr⟩, rfl⟩; exact ⟨r, _, _, rfl, gr⟩))) (fun _ => s_nil ⟨r, _, _, rfl, gr⟩))
    rintro _ ⟨r, v13', v14', rfl, gr⟩
    refine s_cons (N1 := fun e => ∃ r ws' bf' z', e = St0 rows ws' bf' z' (.dat (.int (0 + (m : Nat)))) (.dat (.int kd)) (.dat (Row.d r)) v13' v14' ∧ GoodR se rows r ∧ WiresOk (rows ++ [r]) ws' ∧ WiresOk (rows ++ [r]) bf') (s_if (PW.pt (w_and (t_cmp op_eq rd_eqI (x_of (pv 11) rfl) x_int (nomark _)) fun hc => (w_and1 (t_cmp op_gt rd_gt (x_of (pv 3) rfl) x_int (nomark _))))) (fun _ => ?_) (fun _ => ?_)) ?_
    · refine s_seq (s_set (i := 12) (d := Row.next.d) nd rfl (.inl rfl) (lt_ rfl) (x_tup (a_cons x_str a_nil)) rfl) ?_
      refine s_seq (s_set (i := 3) nd rfl (.inl rfl) (lt_ rfl) (x_sub (x_of (pv 3) rfl) x_int) rfl) ?_
      refine s_seq (s_set (i := 9) nd rfl (.inl rfl) (lt_ rfl) (x_of (pv 8) rfl) rfl) ?_
      refine s_one (s_weak (s_set (i := 8) (d := .lst (natz [])) nd rfl (.inl rfl) (lt_ rfl) (x_frz (x_lst a_nil)) rfl) ?_)
      rintro _ rfl
      exact ⟨.next, [], ws, z - 1, rfl, ⟨⟨fun a h => (by cases h), True.intro⟩, fun a h => by cases h⟩, ⟨Nat.zero_le _, fun a h => by cases h⟩, wires_snoc hws _⟩
    · refine s_one (s_if (t_is (t_cmp op_ne rd_neS (x_ixt (x_of (pv 12) rfl) x_int (at0 _ _)) x_str (nomark _)) (congrArg (fun b => !b) (k_is6 _))) (fun hc => ?_) (fun hc => s_nil ⟨r, ws, bf, z, rfl, gr.1, wires_snoc hws _, wires_snoc hbf _⟩))
      have h6 : ¬ r.tag = 6 := fun e => by rw [decide_eq_true e] at hc; cases hc
      refine s_one (s_weak (s_set (i := 8) (d := .lst (natz (ws ++ [rows.length]))) nd rfl (.inl rfl) (lt_ rfl) (x_eq (x_frz (x_catl (by unfold natz; rw [List.length_map, List.length_singleton]; omega) (q_lst (x_of (pv 8) rfl)) (q_new (x_lst (a_cons (x_of (pv 10) rfl) a_nil))))) (by rw [Int.zero_add, hlen]; unfold natz; rw [List.map_append]; rfl)) rfl) ?_)
      rintro _ rfl
      refine ⟨r, ws ++ [rows.length], bf, z, rfl, gr.1, ⟨by rw [List.length_append, List.length_append, List.length_singleton, List.length_singleton]; omega, fun a ha => ?_⟩, wires_snoc hbf _⟩
      rcases List.mem_append.mp ha with ha | ha
      · exact (wires_snoc hws r).2 a ha
      · rw [List.mem_singleton.mp ha]
        exact ⟨r, by rw [List.getElem?_append_right (Nat.le_refl _), Nat.sub_self]; rfl, fun h => h.elim h6 gr.2⟩
    · rintro _ ⟨r, ws', bf', z', rfl, gr', hws', hbf'⟩
      refine s_one (s_weak (s_app (d := Row.d r) (pv 7) rfl (lt_ rfl) (by rw [List.length_map]; omega) (x_of (pv 12) rfl) rfl) ?_)
      rintro _ rfl
      exact ⟨rows ++ [r], ws', bf', z', .dat (.int (0 + (m : Nat))), .dat (.int kd), .dat (Row.d r), v13', v14', by show _ = St0 _ _ _ _ _ _ _ _ _; simp only [St0, List.map_append]; rfl, prog_snoc po gr' hk60, by rw [List.length_append, hlen]; rfl, hws', hbf'⟩
  · rintro ds _ ⟨n, hn0, hn, rfl⟩ ⟨rows, ws, bf, z, v10, v11, v12, v13, v14, rfl, po, hlen, _⟩
    rw [rngD_len] at hlen
    exact ⟨rows, ws, bf, z, v10, v11, v12, v13, v14, rfl, po, by omega, by omega⟩
  · rintro _ ⟨rows, ws, bf, z, v10, v11, v12, v13, v14, rfl, po, h1, h2⟩
    exact s_one (s_ret (x_weak (x_tup (a_cons x_str (a_cons (x_tuple rfl B.tuple (o_own (pv 7) rfl)) a_nil))) fun d e => ⟨se, most, z0, rows, rfl, e, po, h1, h2⟩))
end
end Un
set_option maxHeartbeats 4000000
namespace Un
open PySem L2 TL
def ownTo (se : Se) (rows : List Row) (ins coins : List Int) (num : Nat) : Nat → List Int × List Int
  | 0 => ([], [])
  | n + 1 => match rows[n]? with
    | none => ownTo se rows ins coins num n
    | some (.inp j) => if j = num then ((ownTo se rows ins coins num n).1 ++ [ins.getD (inN (rows.take n)) 0], (ownTo se rows ins coins num n).2 ++ (coins.drop (coinsN se (rows.take n))).take se.t) else ownTo se rows ins coins num n
    | some r => if kmB r = true then ((ownTo se rows ins coins num n).1, (ownTo se rows ins coins num n).2 ++ (coins.drop (coinsN se (rows.take n) + se.t * (num - 1))).take se.t) else ownTo se rows ins coins num n
def S_lown (ds : List D) (d : D) : Prop := ∃ (se : Se) (rows : List Row) (ins coins : List Int) (num : Nat), ds = [se.d, progD rows, .tup (inz ins), .tup (inz coins), .int (num : Int)] ∧ se.Ok ∧ rows.length ≤ 60 ∧ InOk se rows ins coins ∧ 1 ≤ num ∧ num ≤ se.n ∧
  d = .tup [.tup (inz (ownTo se rows ins coins num rows.length).1), .tup (inz (ownTo se rows ins coins num rows.length).2)]
def S_lpaper (ds : List D) (d : List D) : Prop := ∃ (num : Nat) (ins coins : List Int) (ls : List Let), ds = [.int (num : Int), .tup [.tup (inz ins), .tup (inz coins)], .lst (ls.map (letD num))] ∧ num ≤ 100 ∧ ins.length ≤ 1000 ∧ coins.length ≤ 1000 ∧ ls.length ≤ 500 ∧ (∀ z ∈ ins, 0 ≤ z ∧ z < 100000) ∧ (∀ z ∈ coins, 0 ≤ z ∧ z < 100000) ∧ (∀ l ∈ ls, l.1 < 1000 ∧ l.2.1 < 1000 ∧ 0 ≤ l.2.2 ∧ l.2.2 < 100000) ∧ d = (paperL num ins coins ls).map D.str
def S_lcell (ds : List D) (d : D) : Prop := ∃ (ns : List Int) (k : Nat), ds = [.scr ns, .int (k : Int)] ∧ d = .int (ns.getD k 0)
def PreDig (ds : List D) : Prop := ∃ (ns : List Int) (m : Nat), ds = [.scr ns, .int 0, .int (m : Int)] ∧ m ≤ 63
def PostDig (ds : List D) (es : List D) : Prop := ∃ ns : List Int, es = inz ns ∧ DigOk ns
theorem ownTo_len (se : Se) (rows : List Row) (ins coins : List Int) (num : Nat) : ∀ n, (ownTo se rows ins coins num n).1.length ≤ n ∧ (ownTo se rows ins coins num n).2.length ≤ n * se.t
  | 0 => ⟨Nat.le_refl _, Nat.zero_le _⟩
  | n + 1 => by
    obtain ⟨h1, h2⟩ := ownTo_len se rows ins coins num n
    have l : ∀ a : Nat, ((coins.drop a).take se.t).length ≤ se.t := fun a => by rw [List.length_take]; omega
    rw [ownTo]
    rw [Nat.succ_mul]
    split
    · exact ⟨by omega, by omega⟩
    · split
      · have := l (coinsN se (rows.take n))
        exact ⟨by rw [List.length_append, List.length_singleton]; omega, by rw [List.length_append]; omega⟩
      · exact ⟨by omega, by omega⟩
    · split
      · have := l (coinsN se (rows.take n) + se.t * (num - 1))
        exact ⟨by show (ownTo se rows ins coins num n).1.length ≤ n + 1; omega, by rw [List.length_append]; omega⟩
      · exact ⟨by omega, by omega⟩
section
variable {P : Program} {w : World} {K : PySem.W.Frag} {mg : Str → Option Value} {base : Heap} {C : Addr} {g : Addr} {fd : FuncData}
abbrev s__law_cell : Stmt := top 53
abbrev N__law_cell : List Str := ["_law_script", "_law_k"]
theorem sc__law_cell : FnScope N__law_cell ["_law_script", "_law_k"] (defScope s__law_cell) := ⟨rfl, rfl, rfl, by decide +kernel, rfl, by decide +kernel, by decide +kernel⟩
theorem ok_law_cell (B : Bt mg) (F : Fun K "_law_cell" "_law_cell" s__law_cell g fd) : FnOk P w K mg base CX0 1 g fd ["_law_script", "_law_k"] (spD K C 2 S_lcell) := by
  refine fn_D F sc__law_cell rfl fun cdv A outer s H E G ds d hr hS => ?_
  obtain ⟨ns, k, rfl, rfl⟩ := hS
  refine ss_ifl (t_cmp op_lt rd_lt (x_of (pv 1) rfl) (x_len rfl B.len (o_l (o_scr (x_of (pv 0) rfl)))) (nomark _)) (fun hc => ?_) (fun hc => ?_)
  · have hc : ((k : Nat) : Int) < ((inz ns).length : Int) := of_decide_eq_true hc
    rw [List.length_map] at hc
    exact s_one (s_ret (x_ix (o_l (o_scr (x_of (pv 0) rfl))) (x_of (pv 1) rfl) (inz_at (by omega))))
  · have hc : ¬ ((k : Nat) : Int) < ((inz ns).length : Int) := of_decide_eq_false hc
    rw [List.length_map] at hc
    refine s_one (s_ret (x_eq x_int ?_))
    rw [List.getD_eq_getElem?_getD, List.getElem?_eq_none (by omega)]; rfl
abbrev s__law_digits : Stmt := top 54
abbrev N__law_digits : List Str := ["_law_script", "_law_first", "_law_last", "_law_digits_here", "_law_k", "_law_cell_here", "_law_turn", "_law_seed"]
theorem sc__law_digits : FnScope N__law_digits ["_law_script", "_law_first", "_law_last"] (defScope s__law_digits) := ⟨rfl, rfl, rfl, by decide +kernel, rfl, by decide +kernel, by decide +kernel⟩
theorem dig_app {ns : List Int} {z : Int} (h : ∀ x ∈ ns, 0 ≤ x ∧ x < 1000) : ∀ x ∈ ns ++ [z % 1000], 0 ≤ x ∧ x < 1000 := fun x hx => by
  rcases List.mem_append.mp hx with hx | hx
  · exact h x hx
  · rw [List.mem_singleton.mp hx]; omega
theorem ok_law_digits (B : Bt mg) (c_law_cell : Glo P w K mg base "_law_cell" 1 ["_law_script", "_law_k"] (spD K C 2 S_lcell)) (F : Fun K "_law_digits" "_law_digits" s__law_digits g fd) : FnOk P w K mg base CX0 2 g fd ["_law_script", "_law_first", "_law_last"] (spP K C 3 PreDig PostDig) := by
  refine fn_P F sc__law_digits rfl fun cdv A outer s H E G ds hr hS => ?_
  obtain ⟨sc, m, rfl, hm⟩ := hS
  have nd := sc__law_digits.nd
  have rg : ((m : Nat) : Int) - 0 = ((m : Nat) : Int) := by omega
  refine s_seq (s_setN (i := 3) nd rfl (.inl rfl) (lt_ rfl) (x_lst a_nil) rfl) ?_
  refine s_cons (N1 := fun e => ∃ ns v4 v5 v6 v7, e = [.dat (.scr sc), .dat (.int 0), .dat (.int (m : Int)), .own (inz ns), v4, v5, v6, v7] ∧ (∀ x ∈ ns, 0 ≤ x ∧ x < 1000) ∧ ns.length ≤ m * 60) (s_forr (lo := 0) (n := m) (j := 4) (fun i e => ∃ ns v4 v5 v6 v7, e = [.dat (.scr sc), .dat (.int 0), .dat (.int (m : Int)), .own (inz ns), v4, v5, v6, v7] ∧ (∀ x ∈ ns, 0 ≤ x ∧ x < 1000) ∧ ns.length ≤ i * 60) PassesOwn.never rfl (by rw [← Int.toNat_natCast m, ← rg]; exact i_rng2 (by omega) (by omega) rfl B.range (x_of (pv 1) rfl) (x_of (pv 2) rfl)) (pg_name (i := 4) nd rfl (.inl rfl)) ?_ ?_ ?_ ?_) ?_
  · exact ⟨[], .no, .no, .no, .no, rfl, fun x h => (by cases h), Nat.zero_le _⟩
  · rintro i _ ⟨ns, v4, v5, v6, v7, rfl, _⟩; exact lt_ rfl
  · rintro k _ hk ⟨ns, v4, v5, v6, v7, rfl, hz, hl⟩
    rw [Int.zero_add]
    have hl2 : ns.length ≤ 63 * 60 := Nat.le_trans hl (Nat.mul_le_mul_right 60 (by omega))
    refine s_seq (s_set (i := 5) nd rfl (.inl rfl) (lt_ rfl) (x_call c_law_cell hr (a_cons (x_of (pv 0) rfl) (a_cons (x_of (pv 4) rfl) a_nil)) ⟨rfl, sc, k, rfl, rfl⟩) rfl) ?_
    refine s_cons (N1 := fun e => ∃ c, e = [.dat (.scr sc), .dat (.int 0), .dat (.int (m : Int)), .own (inz ns), .dat (.int (k : Int)), .dat (.int c), v6, v7]) (s_if (t_cmp op_lt rd_lt (x_of (pv 5) rfl) x_int (nomark _)) (fun _ => s_one (s_weak (s_set (i := 5) nd rfl (.inl rfl) (lt_ rfl) (x_sub x_int (x_mul (.inl ⟨by decide, by decide⟩) x_int (x_of (pv 5) rfl))) rfl) (by rintro _ rfl; exact ⟨_, rfl⟩))) (fun _ => s_nil ⟨_, rfl⟩)) ?_
    rintro _ ⟨c, rfl⟩
    refine s_one (s_if (t_cmp op_ge rd_ge (x_of (pv 5) rfl) (x_pow ⟨by decide, by decide, by decide⟩ x_int x_int) (nomark _)) (fun _ => ?_) (fun _ => ?_))
    · refine s_one (s_weak (N := fun e => ∃ ns c v6, e = [.dat (.scr sc), .dat (.int 0), .dat (.int (m : Int)), .own (inz ns), .dat (.int (k : Int)), .dat (.int c), v6, v7] ∧ (∀ x ∈ ns, 0 ≤ x ∧ x < 1000) ∧ ns.length ≤ k * 60 + 60) (s_forr (lo := 0) (n := 60) (j := 6) (fun i e => ∃ ns c v6, e = [.dat (.scr sc), .dat (.int 0), .dat (.int (m : Int)), .own (inz ns), .dat (.int (k : Int)), .dat (.int c), v6, v7] ∧ (∀ x ∈ ns, 0 ≤ x ∧ x < 1000) ∧ ns.length ≤ k * 60 + i) PassesOwn.never rfl (i_rng1 (by decide) rfl B.range x_int) (pg_name (i := 6) nd rfl (.inl rfl)) ?_ ?_ ?_ ?_) ?_)
      · exact ⟨ns, c, v6, rfl, hz, hl⟩
      · rintro i _ ⟨ns, c, v6, rfl, _⟩; exact lt_ rfl
      · rintro i _ hi ⟨ns, c, v6, rfl, hz, hl⟩
        have : k * 60 ≤ 63 * 60 := Nat.mul_le_mul_right 60 (by omega)
        refine s_one (s_if (t_cmp op_gt rd_gt (x_of (pv 5) rfl) x_int (nomark _)) (fun _ => ?_) (fun _ => s_nil ⟨ns, c, .dat (.int (0 + (i : Nat))), rfl, hz, by omega⟩))
        refine s_seq (s_app (pv 3) rfl (lt_ rfl) (by rw [List.length_map]; omega) (x_mod (by decide) (x_inti rfl B.int (x_of (pv 5) rfl)) x_int) rfl) ?_
        refine s_one (s_weak (s_set (i := 5) nd rfl (.inl rfl) (lt_ rfl) (x_fdiv ⟨by decide, by decide⟩ (x_of (pv 5) rfl) x_int) rfl) ?_)
        rintro _ rfl
        exact ⟨ns ++ [c % 1000], c / 1000, .dat (.int (0 + (i : Nat))), by simp only [inz, List.map_append]; rfl, dig_app hz, by rw [List.length_append, List.length_singleton]; omega⟩
      · rintro _ h; exact h
      · rintro _ ⟨ns, c, v6, rfl, hz, hl⟩
        exact ⟨ns, .dat (.int (k : Int)), .dat (.int c), v6, v7, rfl, hz, by rw [Nat.succ_mul]; exact hl⟩
    · refine s_seq (s_set (i := 7) nd rfl (.inl rfl) (lt_ rfl) (x_mod (by decide) (x_inti rfl B.int (x_add (x_add (x_mul (.inr ⟨by decide, by decide⟩) (x_of (pv 5) rfl) x_int) (x_mul (.inr ⟨by decide, by decide⟩) (x_of (pv 4) rfl) x_int)) x_int)) x_int) rfl) ?_
      refine s_one (s_weak (N := fun e => ∃ ns v6 z, e = [.dat (.scr sc), .dat (.int 0), .dat (.int (m : Int)), .own (inz ns), .dat (.int (k : Int)), .dat (.int c), v6, .dat (.int z)] ∧ (∀ x ∈ ns, 0 ≤ x ∧ x < 1000) ∧ ns.length ≤ k * 60 + 12) (s_forr (lo := 0) (n := 12) (j := 6) (fun i e => ∃ ns v6 z, e = [.dat (.scr sc), .dat (.int 0), .dat (.int (m : Int)), .own (inz ns), .dat (.int (k : Int)), .dat (.int c), v6, .dat (.int z)] ∧ (∀ x ∈ ns, 0 ≤ x ∧ x < 1000) ∧ ns.length ≤ k * 60 + i) PassesOwn.never rfl (i_rng1 (by decide) rfl B.range x_int) (pg_name (i := 6) nd rfl (.inl rfl)) ?_ ?_ ?_ ?_) ?_)
      · exact ⟨ns, v6, _, rfl, hz, hl⟩
      · rintro i _ ⟨ns, v6, z, rfl, _⟩; exact lt_ rfl
      · rintro i _ hi ⟨ns, v6, z, rfl, hz, hl⟩
        have : k * 60 ≤ 63 * 60 := Nat.mul_le_mul_right 60 (by omega)
        refine s_seq (s_set (i := 7) nd rfl (.inl rfl) (lt_ rfl) (x_mod (by decide) (x_inti rfl B.int (x_add (x_add (x_mul (.inr ⟨by decide, by decide⟩) (x_of (pv 7) rfl) x_int) (x_mul (.inl ⟨by decide, by decide⟩) x_int (x_of (pv 6) rfl))) x_int)) x_int) rfl) ?_
        refine s_one (s_weak (s_app (pv 3) rfl (lt_ rfl) (by rw [List.length_map]; omega) (x_mod (by decide) (x_inti rfl B.int (x_fdiv ⟨by decide, by decide⟩ (x_of (pv 7) rfl) x_int)) x_int) rfl) ?_)
        rintro _ rfl
        exact ⟨ns ++ [((z * 16807 + 7 * (0 + ((i : Nat) : Int)) + 1) % 2147483647 / 997) % 1000], .dat (.int (0 + (i : Nat))), (z * 16807 + 7 * (0 + ((i : Nat) : Int)) + 1) % 2147483647, by simp only [inz, List.map_append]; rfl, dig_app hz, by rw [List.length_append, List.length_singleton]; omega⟩
      · rintro _ h; exact h
      · rintro _ ⟨ns, v6, z, rfl, hz, hl⟩
        exact ⟨ns, .dat (.int (k : Int)), .dat (.int c), v6, .dat (.int z), rfl, hz, by rw [Nat.succ_mul]; omega⟩
  · rintro _ h; exact h
  · rintro _ ⟨ns, v4, v5, v6, v7, rfl, hz, hl⟩
    have hl2 : ns.length ≤ 63 * 60 := Nat.le_trans hl (Nat.mul_le_mul_right 60 (by omega))
    refine s_one (ps_imp (s_retO (N := fun _ => False) (pv 3) rfl) fun Dn σ H ⟨G, rp, hn, hr⟩ => ⟨G, rp, fun _ _ _ _ f => f.elim, fun v H' q => hr v H' ?_⟩)
    obtain ⟨p, xs, ds, G', h1, h2, h3, h4, h5, h6, h7, h8⟩ := q
    exact ⟨p, xs, ds, G', h1, h2, h3, h4, h5, h6, ⟨ns, h7, hz, by omega⟩, h8⟩
end
end Un
set_option maxHeartbeats 4000000
namespace Un
open PySem L2 TL
theorem line_party (n : Int) : Txt.join (Str.ofString " ") [Str.ofString "party", numS n] = Str.ofString "party " ++ numS n := by
  apply ext_tl
  rw [join_eq, tl_join, tl_append]
  show joinL (tl (Str.ofString " ")) [tl (Str.ofString "party"), tl (numS n)] = _
  show tl (Str.ofString "party") ++ (tl (Str.ofString " ") ++ tl (numS n)) = _
  rw [← List.append_assoc, show tl (Str.ofString "party") ++ tl (Str.ofString " ") = tl (Str.ofString "party ") by decide +kernel]
theorem log2_small {i : Int} (h : 0 ≤ i) (h2 : i < 100000) : i.natAbs.log2 < 1920 := by
  obtain ⟨n, rfl⟩ := Int.eq_ofNat_of_zero_le h
  rw [Int.natAbs_natCast]
  have : n.log2 ≤ n := Nat.log2_le_self n
  by_cases hn : n = 0
  · subst hn; decide
  · have := (Nat.log2_lt hn (k := 1920)).mpr (Nat.lt_of_lt_of_le (show n < 2 ^ 17 by omega) (Nat.pow_le_pow_right (by decide) (by decide)))
    exact this
theorem sum_len_le {m : Nat} : ∀ l : List Str, (∀ s ∈ l, s.length ≤ m) → (l.map (·.length)).sum ≤ l.length * m
  | [], _ => Nat.zero_le _
  | s :: l, h => by
    rw [List.map_cons, List.sum_cons, List.length_cons, Nat.succ_mul]
    have h1 := h s List.mem_cons_self
    have h2 := sum_len_le l fun x hx => h x (List.mem_cons_of_mem _ hx)
    omega
section
variable {P : Program} {w : World} {K : PySem.W.Frag} {mg : Str → Option Value} {base : Heap} {C : Addr} {g : Addr} {fd : FuncData}
abbrev s__law_own : Stmt := top 78
abbrev N__law_own : List Str := ["_law_setting", "_law_program_here", "_law_inputs_here", "_law_coins_here", "_law_party", "_law_t", "_law_mine", "_law_drawn", "_law_used", "_law_at_here", "_law_row"]
theorem sc__law_own : FnScope N__law_own ["_law_setting", "_law_program_here", "_law_inputs_here", "_law_coins_here", "_law_party"] (defScope s__law_own) := ⟨rfl, rfl, rfl, by decide +kernel, rfl, by decide +kernel, by decide +kernel⟩
theorem ownTo_succ {se : Se} {rows : List Row} {ins coins : List Int} {num n : Nat} {r : Row} (h : rows[n]? = some r) : ownTo se rows ins coins num (n + 1) = (match r with
    | .inp j => if j = num then ((ownTo se rows ins coins num n).1 ++ [ins.getD (inN (rows.take n)) 0], (ownTo se rows ins coins num n).2 ++ (coins.drop (coinsN se (rows.take n))).take se.t) else ownTo se rows ins coins num n
    | r => if kmB r = true then ((ownTo se rows ins coins num n).1, (ownTo se rows ins coins num n).2 ++ (coins.drop (coinsN se (rows.take n) + se.t * (num - 1))).take se.t) else ownTo se rows ins coins num n) := by
  rw [ownTo]
  simp only [h]
  cases r <;> rfl
theorem ok_law_own (B : Bt mg) (F : Fun K "_law_own" "_law_own" s__law_own g fd) : FnOk P w K mg base CX0 1 g fd ["_law_setting", "_law_program_here", "_law_inputs_here", "_law_coins_here", "_law_party"] (spD K C 5 S_lown) := by
  refine fn_D F sc__law_own rfl fun cdv A outer s H E G ds d hr hS => ?_
  obtain ⟨se, rows, ins, coins, num, rfl, sok, hz, io, m1, m2, rfl⟩ := hS
  have nd := sc__law_own.nd
  have n1 := sok.n1; have n2 := sok.n2; have tn := sok.tn
  refine s_seq (s_set (i := 5) nd rfl (.inl rfl) (lt_ rfl) (x_ixt (x_of (pv 0) rfl) x_int rfl) rfl) ?_
  refine s_seq (s_set (i := 6) (d := .tup (inz [])) nd rfl (.inl rfl) (lt_ rfl) (x_tup a_nil) rfl) ?_
  refine s_seq (s_set (i := 7) (d := .tup (inz [])) nd rfl (.inl rfl) (lt_ rfl) (x_tup a_nil) rfl) ?_
  refine s_seq (s_set (i := 8) (d := .int (inN [] : Nat)) nd rfl (.inl rfl) (lt_ rfl) x_int rfl) ?_
  refine s_seq (s_set (i := 9) (d := .int (coinsN se [] : Nat)) nd rfl (.inl rfl) (lt_ rfl) x_int rfl) ?_
  let St : List Int × List Int → Nat → Nat → Sl → List Sl := fun o u a v => [.dat se.d, .dat (progD rows), .dat (.tup (inz ins)), .dat (.tup (inz coins)), .dat (.int (num : Int)), .dat (.int (se.t : Int)), .dat (.tup (inz o.1)), .dat (.tup (inz o.2)), .dat (.int (u : Int)), .dat (.int (a : Int)), v]
  refine s_cons (N1 := fun e => ∃ v8 v9 v, e = [.dat se.d, .dat (progD rows), .dat (.tup (inz ins)), .dat (.tup (inz coins)), .dat (.int (num : Int)), .dat (.int (se.t : Int)), .dat (.tup (inz (ownTo se rows ins coins num rows.length).1)), .dat (.tup (inz (ownTo se rows ins coins num rows.length).2)), v8, v9, v]) (s_forl (l := rows) (h := Row.d) (j := 10) (fun pre e => ∃ v, e = St (ownTo se rows ins coins num pre.length) (inN pre) (coinsN se pre) v) PassesOwn.never rfl (i_tup (x_ixt (x_of (pv 1) rfl) x_int rfl)) (pg_name (i := 10) nd rfl (.inl rfl)) ?_ ?_ ?_ ?_) ?_
  · exact ⟨.no, rfl⟩
  · rintro i _ ⟨v, rfl⟩; exact lt_ rfl
  · rintro pre r post _ hl ⟨v, rfl⟩
    have hk : rows[pre.length]? = some r := by rw [hl, List.getElem?_append_right (Nat.le_refl _), Nat.sub_self]; rfl
    have hpre : rows.take pre.length = pre := by rw [hl]; exact List.take_left
    have hkl : pre.length < rows.length := (List.getElem?_eq_some_iff.mp hk).1
    obtain ⟨c1, c2⟩ := coinsN_take (se := se) hk
    obtain ⟨i1, i2⟩ := inN_take hk
    have t1 : (rows.take (pre.length + 1)) = pre ++ [r] := by rw [(split_at hk).2, hpre]
    rw [t1] at c1 i1
    have hs := ownTo_succ (se := se) (ins := ins) (coins := coins) (num := num) hk
    rw [hpre] at c1 c2 i1 i2 hs
    obtain ⟨b1, b2⟩ := ownTo_len se rows ins coins num pre.length
    have b2' : pre.length * se.t ≤ 60 * 2 := Nat.mul_le_mul (by omega) (by omega)
    have hlen : (pre ++ [r]).length = pre.length + 1 := by rw [List.length_append]; rfl
    have cio := io.cl; have iio := io.il
    have slz : (2000 : Nat) ≤ sizeLine := by decide
    generalize ho : ownTo se rows ins coins num pre.length = o at *
    have fin : ∀ o' : List Int × List Int, ownTo se rows ins coins num (pre.length + 1) = o' → St o' (inN (pre ++ [r])) (coinsN se (pre ++ [r])) (.dat r.d) = St (ownTo se rows ins coins num (pre ++ [r]).length) (inN (pre ++ [r])) (coinsN se (pre ++ [r])) (.dat r.d) := fun o' h => by rw [hlen, h]
    by_cases h0 : r.tag = 0
    · cases r with
      | inp j =>
        have e1 : eachN se.n (.inp j) = 1 := rfl
        rw [e1] at c1 c2
        have e2 : (if (Row.inp j).tag = 0 then 1 else 0) = 1 := rfl
        rw [e2] at i1 i2
        have hcut := cutc coins (coinsN se pre) se.t ((coinsN se pre : Nat) : Int) (((coinsN se pre : Nat) : Int) + ((se.t : Nat) : Int)) rfl (by push_cast; rfl)
        refine s_seq (δ1 := St (ownTo se rows ins coins num (pre.length + 1)) (inN (pre ++ [Row.inp j])) (coinsN se (pre ++ [Row.inp j])) (.dat (Row.inp j).d)) (s_ifT (t_is (t_cmp op_eq rd_eqS (x_ixt (x_of (pv 10) rfl) x_int (at0 _ _)) x_str (nomark _)) ((k_is0 _).trans rfl)) (s_seq (δ1 := St (ownTo se rows ins coins num (pre.length + 1)) (inN pre) (coinsN se pre) (.dat (Row.inp j).d)) (s_if (t_is (t_cmp op_eq rd_eqI (x_ixt (x_of (pv 10) rfl) x_int rfl) (x_of (pv 4) rfl) (nomark _)) (dec_nat j num)) (fun hj => ?_) (fun hj => ?_)) ?_)) ?_
        · have hj := of_decide_eq_true hj
          have e : ownTo se rows ins coins num (pre.length + 1) = (o.1 ++ [ins.getD (inN pre) 0], o.2 ++ (coins.drop (coinsN se pre)).take se.t) := by rw [hs]; simp only; rw [if_pos hj]
          rw [e]
          refine s_seq (s_set (i := 6) (d := .tup (inz (o.1 ++ [ins.getD (inN pre) 0]))) nd rfl (.inl rfl) (lt_ rfl) (x_eq (x_cat (by rw [List.length_map, List.length_singleton]; omega) (x_of (pv 6) rfl) (x_tup (a_cons (x_ixt (x_of (pv 2) rfl) (x_of (pv 8) rfl) (inz_at (by omega))) a_nil))) (by simp only [inz, List.map_append]; rfl)) rfl) ?_
          exact s_one (s_set (i := 7) (d := .tup (inz (o.2 ++ (coins.drop (coinsN se pre)).take se.t))) nd rfl (.inl rfl) (lt_ rfl) (x_eq (x_cat (by rw [hcut, List.length_map, List.length_map, List.length_take]; omega) (x_of (pv 7) rfl) (x_sl (x_of (pv 3) rfl) (p_int (x_of (pv 9) rfl)) (p_int (x_add (x_of (pv 9) rfl) (x_of (pv 5) rfl))))) (by rw [hcut]; simp only [inz, List.map_append])) rfl)
        · have hj := of_decide_eq_false hj
          have e : ownTo se rows ins coins num (pre.length + 1) = o := by rw [hs]; simp only; rw [if_neg hj]
          rw [e]
          exact s_nil rfl
        · refine s_seq (s_set (i := 8) (d := .int (inN (pre ++ [Row.inp j]) : Nat)) nd rfl (.inl rfl) (lt_ rfl) (x_eq (x_add (x_of (pv 8) rfl) x_int) (by rw [i1]; push_cast; rfl)) rfl) ?_
          exact s_one (s_set (i := 9) (d := .int (coinsN se (pre ++ [Row.inp j]) : Nat)) nd rfl (.inl rfl) (lt_ rfl) (x_eq (x_add (x_of (pv 9) rfl) (x_of (pv 5) rfl)) (by rw [c1, Nat.mul_one]; push_cast; rfl)) rfl)
        · refine s_one (s_ifF (t_is (t_in (x_ixt (x_of (pv 10) rfl) x_int (at0 _ _)) (o_tup (x_tup (a_cons x_str (a_cons x_str a_nil))))) ((k_in48 _).trans rfl)) (s_nil ⟨.dat (Row.inp j).d, fin _ rfl⟩))
      | _ => exact absurd h0 (by simp [Row.tag])
    · refine s_seq (s_ifF (t_is (t_cmp op_eq rd_eqS (x_ixt (x_of (pv 10) rfl) x_int (at0 _ _)) x_str (nomark _)) ((k_is0 _).trans (decide_eq_false h0))) (s_nil rfl)) ?_
      rw [if_neg h0] at i1 i2
      by_cases h48 : r.tag = 4 ∨ r.tag = 8
      · have ek : eachN se.n r = se.n := by unfold eachN; rw [if_neg h0, if_pos h48]
        rw [ek] at c1 c2
        have e : ownTo se rows ins coins num (pre.length + 1) = (o.1, o.2 ++ (coins.drop (coinsN se pre + se.t * (num - 1))).take se.t) := by
          rw [hs]
          cases r <;> first | (exact absurd rfl h0) | (simp [Row.tag] at h48; done) | rfl
        have hm : se.t * (num - 1) + se.t = se.t * num := by rw [← Nat.mul_succ]; congr 1; omega
        have hm2 : se.t * num ≤ se.t * se.n := Nat.mul_le_mul_left _ m2
        have hcast : ((se.t : Nat) : Int) * (((num : Nat) : Int) - 1) = ((se.t * (num - 1) : Nat) : Int) := by
          rw [show ((num : Nat) : Int) - 1 = ((num - 1 : Nat) : Int) by omega]; push_cast; rfl
        have hcut := cutc coins (coinsN se pre + se.t * (num - 1)) se.t (((coinsN se pre : Nat) : Int) + ((se.t : Nat) : Int) * (((num : Nat) : Int) - 1)) (((coinsN se pre : Nat) : Int) + ((se.t : Nat) : Int) * ((num : Nat) : Int)) (by rw [hcast]; push_cast; rfl) (by rw [Nat.add_assoc, hm]; push_cast; rfl)
        refine s_one (s_ifT (t_is (t_in (x_ixt (x_of (pv 10) rfl) x_int (at0 _ _)) (o_tup (x_tup (a_cons x_str (a_cons x_str a_nil))))) ((k_in48 _).trans (decide_eq_true h48))) ?_)
        refine s_seq (s_set (i := 7) (d := .tup (inz (o.2 ++ (coins.drop (coinsN se pre + se.t * (num - 1))).take se.t))) nd rfl (.inl rfl) (lt_ rfl) (x_eq (x_cat (by rw [hcut, List.length_map, List.length_map, List.length_take]; omega) (x_of (pv 7) rfl) (x_sl (x_of (pv 3) rfl) (p_int (x_add (x_of (pv 9) rfl) (x_mul (.inl ⟨by omega, by omega⟩) (x_of (pv 5) rfl) (x_sub (x_of (pv 4) rfl) x_int)))) (p_int (x_add (x_of (pv 9) rfl) (x_mul (.inl ⟨by omega, by omega⟩) (x_of (pv 5) rfl) (x_of (pv 4) rfl)))))) (by rw [hcut]; simp only [inz, List.map_append])) rfl) ?_
        refine s_one (s_weak (s_set (i := 9) (d := .int (coinsN se (pre ++ [r]) : Nat)) nd rfl (.inl rfl) (lt_ rfl) (x_eq (x_add (x_of (pv 9) rfl) (x_mul (.inl ⟨by omega, by omega⟩) (x_of (pv 5) rfl) (x_ixt (x_of (pv 0) rfl) x_int rfl))) (by rw [c1]; push_cast; rfl)) rfl) ?_)
        rintro _ rfl
        refine ⟨.dat r.d, ?_⟩
        rw [hlen, e, i1]; rfl
      · have ek : eachN se.n r = 0 := by unfold eachN; rw [if_neg h0, if_neg h48]
        rw [ek] at c1 c2
        have e : ownTo se rows ins coins num (pre.length + 1) = o := by
          rw [hs]
          cases r <;> first | (exact absurd rfl h0) | (exact absurd (.inl rfl) h48) | (exact absurd (.inr rfl) h48) | rfl
        refine s_one (s_ifF (t_is (t_in (x_ixt (x_of (pv 10) rfl) x_int (at0 _ _)) (o_tup (x_tup (a_cons x_str (a_cons x_str a_nil))))) ((k_in48 _).trans (decide_eq_false h48))) (s_nil ?_))
        refine ⟨.dat r.d, ?_⟩
        rw [hlen, e, i1, c1]; rfl
  · rintro _ ⟨v, rfl⟩; exact ⟨_, _, v, rfl⟩
  · rintro _ ⟨v8, v9, v, rfl⟩
    exact s_one (s_ret (x_tup (a_cons (x_of (pv 6) rfl) (a_cons (x_of (pv 7) rfl) a_nil))))
abbrev s__law_paper : Stmt := top 80
abbrev N__law_paper : List Str := ["_law_party", "_law_own_here", "_law_took", "_law_lines", "_law_letter", "_law_number_here"]
theorem sc__law_paper : FnScope N__law_paper ["_law_party", "_law_own_here", "_law_took"] (defScope s__law_paper) := ⟨rfl, rfl, rfl, by decide +kernel, rfl, by decide +kernel, by decide +kernel⟩
theorem join_hz {wd : Str} {ns : List Int} (hw : wd.length ≤ 10) (hl : ns.length ≤ 1000) (hn : ∀ z ∈ ns, 0 ≤ z ∧ z < 100000) : ((wd :: ns.map numS).map (·.length)).sum + (wd :: ns.map numS).length * (Str.ofString " ").length ≤ 16777216 := by
  have := sum_len_le (m := 10) (wd :: ns.map numS) fun s hs => by
    rcases List.mem_cons.mp hs with e | e
    · rw [e]; exact hw
    · obtain ⟨z, hz, rfl⟩ := List.mem_map.mp e
      have := num_len (hn z hz).1 (hn z hz).2; omega
  rw [List.length_cons, List.length_map] at this ⊢
  rw [show (Str.ofString " ").length = 1 by decide +kernel]
  omega
theorem ok_law_paper (B : Bt mg) (F : Fun K "_law_paper" "_law_paper" s__law_paper g fd) : FnOk P w K mg base CX0 1 g fd ["_law_party", "_law_own_here", "_law_took"] (spN K C 3 S_lpaper) := by
  refine fn_N F sc__law_paper rfl fun cdv A outer s H E G ds d hr hS => ?_
  obtain ⟨num, ins, coins, ls, rfl, hn, il, cl, ll, hi, hc, hls, rfl⟩ := hS
  have nd := sc__law_paper.nd
  have hnl := num_len (n := (num : Int)) (by omega) (by omega)
  have slz : (2000 : Nat) ≤ sizeLine := by decide
  refine s_seq (s_setN (i := 3) (ds := [.str (lineS "party" [(num : Int)])]) nd rfl (.inl rfl) (lt_ rfl) (x_lst (a_cons (x_eq (x_cats (by
      show (Str.ofString "party ").length + (numS (num : Int)).length ≤ _
      rw [show (Str.ofString "party ").length = 6 by decide +kernel]; omega) x_str (x_stri (log2_small (by omega) (by omega)) rfl B.str (x_of (pv 0) rfl))) (by show D.str (Str.ofString "party " ++ numS (num : Int)) = .str (Txt.join (Str.ofString " ") [Str.ofString "party", numS (num : Int)]); rw [line_party])) a_nil)) rfl) ?_
  have lc : ∀ (wd : Str) (ns : List Int), D.str wd :: ns.map (fun z => D.str (numS z)) = (wd :: ns.map numS).map D.str := fun wd ns => by rw [List.map_cons, List.map_map]; rfl
  refine s_seq (s_app (d := .str (lineS "inputs" ins)) (pv 3) rfl (lt_ rfl) (lt_ rfl) (x_join (ys := Str.ofString "inputs" :: ins.map numS) (join_hz (by decide +kernel) il hi) x_str (by rw [← lc]; exact o_l (o_new (x_catl (by rw [List.length_map, List.length_singleton]; omega) (q_new (x_lst (a_cons x_str a_nil))) (q_new (x_lca (l := ins) (h := D.int) (fun z => D.str (numS z)) (j := 5) rfl nd (lt_ rfl) (by omega) (i_s (i_tup (x_ixt (x_of (pv 1) rfl) x_int rfl))) (blkOk_by (N := N__law_paper) (sc := defScope s__law_paper) (by decide +kernel)) (fun _ _ _ _ _ => pg_name (i := 5) nd rfl (.inl rfl))
      (fun z hz _ _ _ _ _ => (x_stri (log2_small (hi z hz).1 (hi z hz).2) rfl B.str (x_of (pv 5) rfl)))))))))  rfl) ?_
  refine s_seq (s_app (d := .str (lineS "coins" coins)) (pv 3) rfl (lt_ rfl) (lt_ rfl) (x_join (ys := Str.ofString "coins" :: coins.map numS) (join_hz (by decide +kernel) cl hc) x_str (by rw [← lc]; exact o_l (o_new (x_catl (by rw [List.length_map, List.length_singleton]; omega) (q_new (x_lst (a_cons x_str a_nil))) (q_new (x_lca (l := coins) (h := D.int) (fun z => D.str (numS z)) (j := 5) rfl nd (lt_ rfl) (by omega) (i_s (i_tup (x_ixt (x_of (pv 1) rfl) x_int rfl))) (blkOk_by (N := N__law_paper) (sc := defScope s__law_paper) (by decide +kernel)) (fun _ _ _ _ _ => pg_name (i := 5) nd rfl (.inl rfl))
      (fun z hz _ _ _ _ _ => (x_stri (log2_small (hc z hz).1 (hc z hz).2) rfl B.str (x_of (pv 5) rfl)))))))))  rfl) ?_
  refine s_cons (N1 := fun e => ∃ v4 v5, e = [.dat (.int (num : Int)), .dat (.tup [.tup (inz ins), .tup (inz coins)]), .dat (.lst (ls.map (letD num))), .own ((paperL num ins coins ls).map D.str), v4, v5]) (s_forl (l := ls) (h := letD num) (j := 4) (fun pre e => ∃ v4 v5, e = [.dat (.int (num : Int)), .dat (.tup [.tup (inz ins), .tup (inz coins)]), .dat (.lst (ls.map (letD num))), .own ((paperL num ins coins pre).map D.str), v4, v5]) PassesOwn.never rfl (i_lst (x_of (pv 2) rfl)) (pg_name (i := 4) nd rfl (.inl rfl)) ?_ ?_ ?_ ?_) ?_
  · exact ⟨.no, .no, rfl⟩
  · rintro i _ ⟨v4, v5, rfl⟩; exact lt_ rfl
  · rintro pre l post _ hl ⟨v4, v5, rfl⟩
    obtain ⟨k1, k2, k3, k4⟩ := hls l (by rw [hl]; simp)
    have hpl : pre.length ≤ 500 := by
      have := congrArg List.length hl
      rw [List.length_append] at this; omega
    have hp3 : (paperL num ins coins pre).length = 3 + pre.length := by unfold paperL; simp; omega
    refine s_one (s_weak (s_app (d := .str (gotS l)) (pv 3) rfl (lt_ rfl) (by rw [List.length_map, hp3]; omega) (x_join (ys := Str.ofString "got" :: [(l.1 : Int), (l.2.1 : Int), l.2.2].map numS) (join_hz (by decide +kernel) (le_ rfl) (fun z hz => by
        simp only [List.mem_cons, List.not_mem_nil, or_false] at hz
        omega)) x_str (o_l (o_new (x_lst (a_cons x_str (a_cons (x_stri (log2_small (by omega) (by omega)) rfl B.str (x_ixt (x_of (pv 4) rfl) x_int rfl)) (a_cons (x_stri (log2_small (by omega) (by omega)) rfl B.str (x_ixt (x_of (pv 4) rfl) x_int rfl)) (a_cons (x_stri (log2_small k3 k4) rfl B.str (x_ixt (x_of (pv 4) rfl) x_int rfl)) a_nil)))))))) rfl) ?_)
    rintro _ rfl
    refine ⟨.dat (letD num l), v5, ?_⟩
    have : paperL num ins coins (pre ++ [l]) = paperL num ins coins pre ++ [gotS l] := by unfold paperL; rw [List.map_append]; rfl
    rw [this, List.map_append]; rfl
  · rintro _ h; exact h
  · rintro _ ⟨v4, v5, rfl⟩
    exact s_one (s_retO (pv 3) rfl)
end
end Un
set_option maxHeartbeats 4000000
/-! what the papers hold -/
namespace Un
section
variable {se : Se} {rows : List Row} {ins coins : List Int} {num : Nat}
def sliceM (se : Se) (rows : List Row) (coins : List Int) (num k : Nat) (r : Row) : List Int := match r with
  | .inp _ => (coins.drop (coinsN se (rows.take k))).take se.t
  | _ => (coins.drop (coinsN se (rows.take k) + se.t * (num - 1))).take se.t
theorem slice_len (io : InOk se rows ins coins) (m1 : 1 ≤ num) (m2 : num ≤ se.n) {k : Nat} {r : Row} (h : rows[k]? = some r) (hm : mine num r = true) : (sliceM se rows coins num k r).length = se.t := by
  obtain ⟨c1, c2⟩ := coinsN_take (se := se) h
  have cl := io.cl
  have hm3 : se.t * (num - 1) + se.t = se.t * num := by rw [← Nat.mul_succ]; congr 1; omega
  have hm4 : se.t * num ≤ se.t * se.n := Nat.mul_le_mul_left _ m2
  cases r with
  | inp j =>
    have e1 : eachN se.n (.inp j) = 1 := rfl
    rw [e1] at c2
    show ((coins.drop _).take se.t).length = _
    rw [List.length_take, List.length_drop]; omega
  | prod a b =>
    have e1 : eachN se.n (.prod a b) = se.n := rfl
    rw [e1] at c2
    show ((coins.drop _).take se.t).length = _
    rw [List.length_take, List.length_drop]; omega
  | kept a =>
    have e1 : eachN se.n (.kept a) = se.n := rfl
    rw [e1] at c2
    show ((coins.drop _).take se.t).length = _
    rw [List.length_take, List.length_drop]; omega
  | const c => cases hm
  | sum a b => cases hm
  | less a b => cases hm
  | times c a => cases hm
  | out a j => cases hm
  | next => cases hm
/-- one more row of one's own -/
theorem own_step {k : Nat} {r : Row} (h : rows[k]? = some r) : ownTo se rows ins coins num (k + 1) = ((ownTo se rows ins coins num k).1 ++ (if isIn num r = true then [ins.getD (inN (rows.take k)) 0] else []), (ownTo se rows ins coins num k).2 ++ (if mine num r = true then sliceM se rows coins num k r else [])) := by
  rw [ownTo_succ h]
  cases r with
  | inp j =>
    by_cases e : j = num
    · simp [e, isIn, mine, sliceM]
    · simp [e, isIn, mine]
  | prod a b =>
    show (if kmB (Row.prod a b) = true then _ else _) = _
    rw [if_pos (show kmB (Row.prod a b) = true from rfl)]
    simp [isIn, mine, sliceM]
  | kept a =>
    show (if kmB (Row.kept a) = true then _ else _) = _
    rw [if_pos (show kmB (Row.kept a) = true from rfl)]
    simp [isIn, mine, sliceM]
  | const c =>
    show (if kmB (Row.const c) = true then _ else _) = _
    rw [if_neg (show ¬ kmB (Row.const c) = true from fun h => by cases h)]
    simp [isIn, mine]
  | sum a b =>
    show (if kmB (Row.sum a b) = true then _ else _) = _
    rw [if_neg (show ¬ kmB (Row.sum a b) = true from fun h => by cases h)]
    simp [isIn, mine]
  | less a b =>
    show (if kmB (Row.less a b) = true then _ else _) = _
    rw [if_neg (show ¬ kmB (Row.less a b) = true from fun h => by cases h)]
    simp [isIn, mine]
  | times c a =>
    show (if kmB (Row.times c a) = true then _ else _) = _
    rw [if_neg (show ¬ kmB (Row.times c a) = true from fun h => by cases h)]
    simp [isIn, mine]
  | out a j =>
    show (if kmB (Row.out a j) = true then _ else _) = _
    rw [if_neg (show ¬ kmB (Row.out a j) = true from fun h => by cases h)]
    simp [isIn, mine]
  | next =>
    show (if kmB Row.next = true then _ else _) = _
    rw [if_neg (show ¬ kmB Row.next = true from fun h => by cases h)]
    simp [isIn, mine]
theorem own_lens (io : InOk se rows ins coins) (m1 : 1 ≤ num) (m2 : num ≤ se.n) : ∀ n, n ≤ rows.length → (ownTo se rows ins coins num n).1.length = usedAt num rows n ∧ (ownTo se rows ins coins num n).2.length = atAt se.t num rows n
  | 0, _ => ⟨by unfold usedAt; simp [ownTo], by unfold atAt; simp [ownTo]⟩
  | n + 1, hn => by
    have h : rows[n]? = some rows[n] := List.getElem?_eq_getElem (by omega)
    obtain ⟨h1, h2⟩ := own_lens io m1 m2 n (by omega)
    rw [own_step h, usedAt_succ h, atAt_succ h, List.length_append, List.length_append, h1, h2]
    refine ⟨?_, ?_⟩
    · congr 1; split <;> rfl
    · congr 1
      by_cases e : mine num rows[n] = true
      · rw [if_pos e, if_pos e, slice_len io m1 m2 h e]
      · rw [if_neg e, if_neg e]; rfl
theorem own_mine (io : InOk se rows ins coins) (m1 : 1 ≤ num) (m2 : num ≤ se.n) {k : Nat} {r : Row} (h : rows[k]? = some r) : ∀ n, k < n → n ≤ rows.length →
    (isIn num r = true → (ownTo se rows ins coins num n).1.getD (usedAt num rows k) 0 = ins.getD (inN (rows.take k)) 0) ∧ (mine num r = true → ((ownTo se rows ins coins num n).2.drop (atAt se.t num rows k)).take se.t = sliceM se rows coins num k r)
  | 0, hk, _ => absurd hk (by omega)
  | n + 1, hk, hn => by
    have hr : rows[n]? = some rows[n] := List.getElem?_eq_getElem (by omega)
    obtain ⟨l1, l2⟩ := own_lens (ins := ins) (coins := coins) io m1 m2 n (by omega)
    rw [own_step hr]
    by_cases e : k < n
    · obtain ⟨i1, i2⟩ := own_mine io m1 m2 h n e (by omega)
      have ul : isIn num r = true → usedAt num rows k + 1 ≤ usedAt num rows n := fun hi => by
        have := usedAt_le num rows (k + 1) n (by omega)
        rw [usedAt_succ h, if_pos hi] at this; exact this
      have al : mine num r = true → atAt se.t num rows k + se.t ≤ atAt se.t num rows n := fun hi => by
        have h3 : atAt se.t num rows (k + 1) ≤ atAt se.t num rows n := by
          unfold atAt
          refine Nat.mul_le_mul_left _ ?_
          have e : rows.take (k + 1) = (rows.take n).take (k + 1) := by rw [List.take_take, Nat.min_eq_left (by omega)]
          rw [e]
          exact (List.Sublist.filter _ (List.take_sublist _ _)).length_le
        rw [atAt_succ h, if_pos hi] at h3; exact h3
      refine ⟨fun hi => ?_, fun hi => ?_⟩
      · have := ul hi
        rw [← i1 hi, List.getD_eq_getElem?_getD, List.getElem?_append_left (by omega), ← List.getD_eq_getElem?_getD]
      · have := al hi
        rw [← i2 hi, List.drop_append_of_le_length (by omega), List.take_append_of_le_length (by rw [List.length_drop]; omega)]
    · have e : k = n := by omega
      subst e
      rw [hr] at h
      have h := Option.some.inj h
      subst h
      refine ⟨fun hi => ?_, fun hi => ?_⟩
      · rw [if_pos hi, List.getD_eq_getElem?_getD, List.getElem?_append_right (by omega), l1, Nat.sub_self]; rfl
      · rw [if_pos hi, ← l2]
        show (((ownTo se rows ins coins num k).2 ++ sliceM se rows coins num k rows[k]).drop _).take _ = _
        rw [List.drop_left, List.take_of_length_le (by rw [slice_len io m1 m2 hr hi]; exact Nat.le_refl _)]
theorem own_range (io : InOk se rows ins coins) (sok : se.Ok) : ∀ n, n ≤ rows.length → (∀ z ∈ (ownTo se rows ins coins num n).1, 0 ≤ z ∧ z < se.p) ∧ (∀ z ∈ (ownTo se rows ins coins num n).2, 0 ≤ z ∧ z < se.p)
  | 0, _ => ⟨fun z h => (by cases h), fun z h => (by cases h)⟩
  | n + 1, hn => by
    have h : rows[n]? = some rows[n] := List.getElem?_eq_getElem (by omega)
    obtain ⟨h1, h2⟩ := own_range io sok n (by omega)
    rw [own_step h]
    have p2 := sok.p2
    refine ⟨fun z hz => ?_, fun z hz => ?_⟩
    · rcases List.mem_append.mp hz with hz | hz
      · exact h1 z hz
      · split at hz
        · rw [List.mem_singleton.mp hz, List.getD_eq_getElem?_getD]
          cases q : ins[inN (rows.take n)]? with
          | none => exact ⟨Int.le_refl 0, by show (0 : Int) < se.p; omega⟩
          | some y => exact io.ir y (List.mem_of_getElem? q)
        · cases hz
    · rcases List.mem_append.mp hz with hz | hz
      · exact h2 z hz
      · split at hz
        · unfold sliceM at hz
          split at hz <;> exact io.cr z (List.mem_of_mem_drop (List.mem_of_mem_take hz))
        · cases hz
end
end Un
set_option maxHeartbeats 4000000
/-! the letters to a party -/
namespace Un
theorem filter_one {l : List Nat} {a : Nat} (nd : l.Nodup) (h : a ∈ l) : l.filter (fun x => decide (x = a)) = [a] := by
  induction l with
  | nil => cases h
  | cons x l ih =>
    obtain ⟨h1, h2⟩ := List.nodup_cons.mp nd
    rw [List.filter_cons]
    by_cases e : x = a
    · subst e
      rw [if_pos (decide_eq_true rfl), List.filter_eq_nil_iff.mpr fun y hy => by
        have : y ≠ x := fun e => h1 (e ▸ hy)
        simp [this]]
    · rw [if_neg (by simp [e])]
      rcases List.mem_cons.mp h with h | h
      · exact absurd h.symm e
      · exact ih h2 h
section
variable {se : Se} {rows : List Row} {ps : List (Option (List Int))} {dl : List (List (List Int))} {num : Nat}
def mineRow (se : Se) (rows : List Row) (ps : List (Option (List Int))) (dl : List (List (List Int))) (num k : Nat) : List Let := match rows[k]? with
  | none => []
  | some r => ((ptsN se.n).filter fun i => sendsM r i num).map fun i => (k, i, numL2 se ps dl k r i num)
theorem one_mine (h : num ∈ ptsN se.n) (k : Nat) (r : Row) (i : Nat) : ((oneL se ps dl k r i (ptsN se.n)).filter fun l => decide (l.1 = num)).map (·.2) = if sendsM r i num = true then [(k, i, numL2 se ps dl k r i num)] else [] := by
  unfold oneL
  rw [List.filter_map, List.filter_filter]
  have e : (ptsN se.n).filter (fun a => ((fun l : LL => decide (l.1 = num)) ∘ fun j => ((j, (k, i, numL2 se ps dl k r i j)) : LL)) a && sendsM r i a) = ((ptsN se.n).filter fun x => decide (x = num)).filter fun a => sendsM r i a := by
    rw [List.filter_filter]
    apply List.filter_congr
    intro x _
    exact Bool.and_comm _ _
  rw [e, filter_one (ptsN_nodup _) h, List.filter_cons]
  split <;> rfl
theorem flat_if {α : Type} (p : Nat → Bool) (f : Nat → α) : ∀ l : List Nat, (l.map fun i => if p i = true then [f i] else []).flatten = (l.filter p).map f
  | [] => rfl
  | i :: l => by
    rw [List.map_cons, List.flatten_cons, flat_if p f l, List.filter_cons]
    split <;> rfl
theorem row_mine (h : num ∈ ptsN se.n) (k : Nat) : ((rowL se rows ps dl k).filter fun l => decide (l.1 = num)).map (·.2) = mineRow se rows ps dl num k := by
  unfold rowL mineRow
  cases rows[k]? with
  | none => rfl
  | some r =>
    simp only
    rw [List.filter_flatten, List.map_flatten, List.map_map, List.map_map, ← flat_if]
    congr 1
    apply List.map_congr_left
    intro i _
    exact one_mine h k r i
def mineLets (se : Se) (rows : List Row) (ps : List (Option (List Int))) (dl : List (List (List Int))) (num n : Nat) : List Let := ((List.range n).map (mineRow se rows ps dl num)).flatten
theorem lets_mine (h : num ∈ ptsN se.n) (n : Nat) : ((letsL se rows ps dl n).filter fun l => decide (l.1 = num)).map (·.2) = mineLets se rows ps dl num n := by
  unfold letsL mineLets
  rw [List.filter_flatten, List.map_flatten, List.map_map, List.map_map]
  congr 1
  apply List.map_congr_left
  intro k _
  exact row_mine h k
theorem mine_mem {n : Nat} {l : Let} : l ∈ mineLets se rows ps dl num n ↔ l.1 < n ∧ ∃ r, rows[l.1]? = some r ∧ l.2.1 ∈ ptsN se.n ∧ sendsM r l.2.1 num = true ∧ l.2.2 = numL2 se ps dl l.1 r l.2.1 num := by
  unfold mineLets
  rw [List.mem_flatten]
  constructor
  · rintro ⟨m, h1, h2⟩
    obtain ⟨k, hk, rfl⟩ := List.mem_map.mp h1
    unfold mineRow at h2
    cases e : rows[k]? with
    | none => rw [e] at h2; cases h2
    | some r =>
      rw [e] at h2
      obtain ⟨i, hi, rfl⟩ := List.mem_map.mp h2
      obtain ⟨i1, i2⟩ := List.mem_filter.mp hi
      exact ⟨List.mem_range.mp hk, r, e, i1, i2, rfl⟩
  · rintro ⟨hk, r, e, i1, i2, hx⟩
    refine ⟨_, List.mem_map.mpr ⟨l.1, List.mem_range.mpr hk, rfl⟩, ?_⟩
    unfold mineRow
    rw [e]
    refine List.mem_map.mpr ⟨l.2.1, List.mem_filter.mpr ⟨i1, i2⟩, ?_⟩
    rw [← hx]
theorem nodup_pair (k : Nat) : ∀ {l : List Nat}, l.Nodup → (l.map fun i => (k, i)).Nodup
  | [], _ => List.nodup_nil
  | i :: l, h => by
    obtain ⟨h1, h2⟩ := List.nodup_cons.mp h
    rw [List.map_cons]
    refine List.nodup_cons.mpr ⟨fun hm => ?_, nodup_pair k h2⟩
    obtain ⟨j, hj, e⟩ := List.mem_map.mp hm
    have : j = i := by injection e
    exact h1 (this ▸ hj)
theorem mine_nd : ∀ n, ((mineLets se rows ps dl num n).map fun l => (l.1, l.2.1)).Nodup
  | 0 => List.nodup_nil
  | n + 1 => by
    have e : mineLets se rows ps dl num (n + 1) = mineLets se rows ps dl num n ++ mineRow se rows ps dl num n := by unfold mineLets; rw [List.range_succ, flat_snoc]
    rw [e, List.map_append]
    refine List.nodup_append.mpr ⟨mine_nd n, ?_, fun x hx y hy e => ?_⟩
    · unfold mineRow
      cases rows[n]? with
      | none => exact List.nodup_nil
      | some r =>
        simp only
        rw [List.map_map]
        exact nodup_pair n (List.Nodup.sublist List.filter_sublist (ptsN_nodup _))
    · obtain ⟨l, hl, rfl⟩ := List.mem_map.mp hx
      obtain ⟨m, hm, rfl⟩ := List.mem_map.mp hy
      have h1 := (mine_mem.mp hl).1
      have h2 : m.1 = n := by
        unfold mineRow at hm
        cases q : rows[n]? with
        | none => rw [q] at hm; cases hm
        | some r =>
          rw [q] at hm
          obtain ⟨i, _, rfl⟩ := List.mem_map.mp hm
          rfl
      have : l.1 = m.1 := by injection e
      omega
theorem mineL_len (n : Nat) : (mineLets se rows ps dl num n).length ≤ n * se.n := by
  have := flat_len (mineRow se rows ps dl num) se.n (List.range n) fun k _ => by
    unfold mineRow
    cases rows[k]? with
    | none => exact Nat.zero_le _
    | some r =>
      show (List.map _ _).length ≤ _
      rw [List.length_map]
      have := List.length_filter_le (fun i => sendsM r i num) (ptsN se.n)
      rwa [ptsN_len] at this
  rwa [List.length_range] at this
end
/-- the paper of a party, its letters in some order -/
structure LawPp (se : Se) (rows : List Row) (ins coins : List Int) (q : Pp) : Prop where
  n1 : 1 ≤ q.num
  n2 : q.num ≤ se.n
  hin : q.inputs = (ownTo se rows ins coins q.num rows.length).1
  hco : q.coins = (ownTo se rows ins coins q.num rows.length).2
  perm : q.ls.Perm (mineLets se rows (runTo se rows ins coins rows.length).1 (runTo se rows ins coins rows.length).2 q.num rows.length)
section
variable {se : Se} {rows : List Row} {ins coins : List Int}
theorem num_range (sok : se.Ok) (ps : List (Option (List Int))) (dl : List (List (List Int))) (k : Nat) (r : Row) (i j : Nat) : 0 ≤ numL2 se ps dl k r i j ∧ numL2 se ps dl k r i j < se.p := by
  have p2 := sok.p2
  cases r <;> exact valueAt_range (by omega) _ _
theorem pp_ok (sok : se.Ok) (po : ProgOk se rows) (io : InOk se rows ins coins) {q : Pp} (lq : LawPp se rows ins coins q) : PpOk se rows q := by
  obtain ⟨l1, l2⟩ := own_lens io lq.n1 lq.n2 rows.length (Nat.le_refl _)
  obtain ⟨r1, r2⟩ := own_range (num := q.num) io sok rows.length (Nat.le_refl _)
  have hz := po.rws.1
  have n2 := sok.n2
  have ml : ∀ l ∈ q.ls, l.1 < rows.length ∧ ∃ r, rows[l.1]? = some r ∧ l.2.1 ∈ ptsN se.n ∧ sendsM r l.2.1 q.num = true ∧ l.2.2 = _ := fun l hl => mine_mem.mp (lq.perm.mem_iff.mp hl)
  refine ⟨⟨sok, po.rws, lq.n1, lq.n2, ?_, ?_, ?_, fun k c hc => ?_, ?_⟩, ?_, ⟨fun l hl => ?_, ?_, ?_⟩, fun k r hk j j1 j2 hs => ?_⟩
  · show q.inputs.length = usedAt q.num rows rows.length; rw [lq.hin]; exact l1
  · show q.coins.length = atAt se.t q.num rows rows.length; rw [lq.hco]; exact l2
  · exact new_len _ _ _ _ _
  · have hc : (rows.map fun _ => ([] : Came))[k]? = some c := hc
    rw [List.getElem?_map] at hc
    cases e : rows[k]? with
    | none => rw [e] at hc; cases hc
    | some r =>
      rw [e] at hc
      cases hc
      exact ⟨List.nodup_nil, fun x h => (by cases h), fun x h => (by cases h)⟩
  · show ∀ z ∈ q.inputs, _; rw [lq.hin]; exact r1
  · rw [lq.hco]; exact r2
  · obtain ⟨h1, r, h2, h3, h4, h5⟩ := ml l hl
    obtain ⟨i1, i2⟩ := mem_ptsN.mp h3
    have nr := num_range sok (runTo se rows ins coins rows.length).1 (runTo se rows ins coins rows.length).2 l.1 r l.2.1 q.num
    rw [← h5] at nr
    exact ⟨h1, i1, i2, fun r' hr' => by
      have hr' : rows[l.1]? = some r' := hr'
      rw [h2] at hr'; cases hr'; exact h4, nr.1, nr.2⟩
  · exact ((lq.perm.map _).nodup_iff).mpr (mine_nd _)
  · rw [lq.perm.length_eq]
    have := mineL_len (se := se) (rows := rows) (ps := (runTo se rows ins coins rows.length).1) (dl := (runTo se rows ins coins rows.length).2) (num := q.num) rows.length
    have h2 : rows.length * se.n ≤ 60 * 5 := Nat.mul_le_mul hz n2
    omega
  · refine ⟨(k, j, numL2 se (runTo se rows ins coins rows.length).1 (runTo se rows ins coins rows.length).2 k r j q.num), lq.perm.mem_iff.mpr (mine_mem.mpr ⟨(List.getElem?_eq_some_iff.mp hk).1, r, hk, mem_ptsN.mpr ⟨j1, j2⟩, hs, rfl⟩), rfl, rfl⟩
theorem came_val (sok : se.Ok) (po : ProgOk se rows) (io : InOk se rows ins coins) {q : Pp} (lq : LawPp se rows ins coins q) {k j : Nat} {r : Row} (hk : rows[k]? = some r) (j1 : 1 ≤ j) (j2 : j ≤ se.n) (hs : sendsM r j q.num = true) :
    (cameL (q.pa se rows) k).lookup j = some (numL2 se (runTo se rows ins coins rows.length).1 (runTo se rows ins coins rows.length).2 k r j q.num) := by
  have ok := pp_ok sok po io lq
  have hc := (takes_came (q.new se rows) q.ls fun x hx => by unfold Pp.new; rw [new_len]; exact (ok.lets.ok x hx).k).2 k
  have hn : cameL (q.new se rows) k = [] := new_came _ _ _ _ _ _
  rw [hn, List.nil_append] at hc
  have hmem : (k, j, numL2 se (runTo se rows ins coins rows.length).1 (runTo se rows ins coins rows.length).2 k r j q.num) ∈ q.ls := lq.perm.mem_iff.mpr (mine_mem.mpr ⟨(List.getElem?_eq_some_iff.mp hk).1, r, hk, mem_ptsN.mpr ⟨j1, j2⟩, hs, rfl⟩)
  unfold Pp.pa
  obtain ⟨x, hx⟩ := lookup_mem (c := cameL (takes (q.new se rows) q.ls) k) (i := j) (by
    rw [hc, List.map_map]
    exact List.mem_map.mpr ⟨_, List.mem_filter.mpr ⟨hmem, decide_eq_true rfl⟩, rfl⟩)
  rw [hx]
  have h2 := lookup_in hx
  rw [hc] at h2
  obtain ⟨l, hl, e⟩ := List.mem_map.mp h2
  obtain ⟨hl1, hl2⟩ := List.mem_filter.mp hl
  have hl2 : l.1 = k := of_decide_eq_true hl2
  obtain ⟨_, r', h3, _, _, h5⟩ := mine_mem.mp (lq.perm.mem_iff.mp hl1)
  rw [hl2, hk] at h3
  cases h3
  have e1 : l.2.1 = j := by injection e
  have e2 : l.2.2 = x := by injection e
  rw [← e2, h5, hl2, e1]
end
end Un
set_option maxHeartbeats 4000000
/-! a party's shares are values of the law's polynomials -/
namespace Un
section
variable {se : Se} {rows : List Row} {ins coins : List Int}
theorem run_pre {k m : Nat} (h : k < m) (hm : m ≤ rows.length) : (runTo se rows ins coins rows.length).1[k]? = (runTo se rows ins coins m).1[k]? := by
  have step : ∀ d, m + d ≤ rows.length → (runTo se rows ins coins (m + d)).1[k]? = (runTo se rows ins coins m).1[k]? := fun d => by
    induction d with
    | zero => intro _; rfl
    | succ d ih =>
      intro hd
      have hr : rows[m + d]? = some rows[m + d] := List.getElem?_eq_getElem (by omega)
      obtain ⟨l1, _⟩ := runTo_len (se := se) (rows := rows) (ins := ins) (coins := coins) (m + d) (by omega)
      rw [← Nat.add_assoc, runTo_succ hr, List.getElem?_append_left (by omega)]
      exact ih (by omega)
  have := step (rows.length - m) (by omega)
  rwa [show m + (rows.length - m) = rows.length by omega] at this
theorem pl_pre {k m : Nat} (h : k < m) (hm : m ≤ rows.length) : plAt (runTo se rows ins coins rows.length).1 k = plAt (runTo se rows ins coins m).1 k := by
  unfold plAt
  rw [List.getD_eq_getElem?_getD, List.getD_eq_getElem?_getD, run_pre h hm]
theorem deal_congr {u a : Nat} {ps ps' : List (Option (List Int))} {r : Row} (h : ∀ x ∈ r.named, plAt ps x = plAt ps' x) : dealR se ins coins u a ps r = dealR se ins coins u a ps' r := by
  cases r with
  | prod x y =>
    have h1 := h x (by simp [Row.named])
    have h2 := h y (by simp [Row.named])
    show (List.range se.n).map (fun (k : Nat) => (valueAt se.p (plAt ps x) ((k : Nat) + 1) * valueAt se.p (plAt ps y) ((k : Nat) + 1)) % se.p :: (coins.drop (a + se.t * k)).take se.t) = (List.range se.n).map (fun (k : Nat) => (valueAt se.p (plAt ps' x) ((k : Nat) + 1) * valueAt se.p (plAt ps' y) ((k : Nat) + 1)) % se.p :: (coins.drop (a + se.t * k)).take se.t)
    rw [h1, h2]
  | _ => rfl
theorem pol_congr {m : List (List Int)} {ps ps' : List (Option (List Int))} {r : Row} (h : ∀ x ∈ r.named, plAt ps x = plAt ps' x) : polR se ps m r = polR se ps' m r := by
  cases r with
  | times c x => show some (polySum se.p [plAt ps x] [c]) = some (polySum se.p [plAt ps' x] [c]); rw [h x (by simp [Row.named])]
  | sum x y => show some (polySum se.p [plAt ps x, plAt ps y] [1, 1]) = some (polySum se.p [plAt ps' x, plAt ps' y] [1, 1]); rw [h x (by simp [Row.named]), h y (by simp [Row.named])]
  | less x y => show some (polySum se.p [plAt ps x, plAt ps y] [1, -1]) = some (polySum se.p [plAt ps' x, plAt ps' y] [1, -1]); rw [h x (by simp [Row.named]), h y (by simp [Row.named])]
  | kept x => show some (polySum se.p (plAt ps x :: m) _) = some (polySum se.p (plAt ps' x :: m) _); rw [h x (by simp [Row.named])]
  | _ => rfl
/-- what was dealt, and the polynomial, of a row: by the law's own lists -/
theorem run_at (po : ProgOk se rows) {k : Nat} {r : Row} (hk : rows[k]? = some r) :
    dlAt (runTo se rows ins coins rows.length).2 k = dealR se ins coins (inN (rows.take k)) (coinsN se (rows.take k)) (runTo se rows ins coins rows.length).1 r ∧
    (runTo se rows ins coins rows.length).1[k]? = some (polR se (runTo se rows ins coins rows.length).1 (dlAt (runTo se rows ins coins rows.length).2 k) r) := by
  have hkl := (List.getElem?_eq_some_iff.mp hk).1
  have cg : ∀ x ∈ r.named, plAt (runTo se rows ins coins k).1 x = plAt (runTo se rows ins coins rows.length).1 x := fun x hx => (pl_pre ((po.rws.2 k r hk).1 x hx) (by omega)).symm
  have h1 : dlAt (runTo se rows ins coins rows.length).2 k = dealR se ins coins (inN (rows.take k)) (coinsN se (rows.take k)) (runTo se rows ins coins rows.length).1 r := by
    unfold dlAt
    rw [List.getD_eq_getElem?_getD, deal_at rows.length (Nat.le_refl _) k r hkl hk, ← deal_congr cg]; rfl
  refine ⟨h1, ?_⟩
  rw [run_pre (show k < k + 1 by omega) (by omega), runTo_succ hk]
  obtain ⟨l1, _⟩ := runTo_len (se := se) (rows := rows) (ins := ins) (coins := coins) k (by omega)
  rw [List.getElem?_append_right (by omega), l1, Nat.sub_self, h1, ← deal_congr cg, ← pol_congr cg]; rfl
def shv (se : Se) (ps : List (Option (List Int))) (r : Row) (k num : Nat) : Option Int := match r with
  | .out _ _ => none
  | .next => none
  | _ => some (valueAt se.p (plAt ps k) (num : Int))
theorem sumZ_range2 (f : Nat → Int) : sumZ f (List.range 2) = f 0 + f 1 := by
  show (List.map f [0, 1]).sum = _
  simp
theorem sumZ_range1 (f : Nat → Int) : sumZ f (List.range 1) = f 0 := by
  show (List.map f [0]).sum = _
  simp
theorem val_mod (sok : se.Ok) (l : List Int) (x : Int) : valueAt se.p l x % se.p = valueAt se.p l x := by
  have p2 := sok.p2
  obtain ⟨h1, h2⟩ := valueAt_range (show 0 < se.p by omega) l x
  exact Int.emod_eq_of_lt h1 h2
theorem sumZ_shift (f : Nat → Int) : ∀ n, sumZ f (List.range (n + 1)) = f 0 + sumZ (fun i => f (i + 1)) (List.range n) := fun n => by
  unfold sumZ
  rw [List.range_succ_eq_map, List.map_cons, List.sum_cons, List.map_map]; rfl
theorem sum_ptsN (f : Nat → Int) (n : Nat) : ((ptsN n).map f).sum = sumZ (fun i => f (i + 1)) (List.range n) := by
  unfold ptsN sumZ
  rw [List.map_map]; rfl
end
end Un
set_option maxHeartbeats 4000000
namespace Un
section
variable {se : Se} {rows : List Row} {ins coins : List Int}
theorem needed_all {r : Row} {found : List (Option Int)} {v : Nat → Int} (h : ∀ x ∈ r.named, found.getD x none = some (v x)) : neededM r found = some (r.named.map v) := by
  unfold neededM
  have e : (r.named.map fun a => found.getD a none) = r.named.map fun a => some (v a) := List.map_congr_left h
  rw [e, if_neg]
  · rw [List.map_map]; rfl
  · intro hc
    obtain ⟨o, ho, h2⟩ := List.any_eq_true.mp hc
    obtain ⟨x, _, rfl⟩ := List.mem_map.mp ho
    cases h2
theorem pts_nodup (n : Nat) : (pts n).Nodup := by
  unfold pts List.Nodup
  rw [List.pairwise_map]
  exact List.Pairwise.imp (fun {a b} h => by omega) (List.pairwise_lt_range (n := n))
theorem all_came (sok : se.Ok) (po : ProgOk se rows) (io : InOk se rows ins coins) {q : Pp} (lq : LawPp se rows ins coins q) {k : Nat} {r : Row} (hk : rows[k]? = some r) (ht : r.tag = 4 ∨ r.tag = 8) : allCame (q.pa se rows) k = true := by
  have ok := pp_ok sok po io lq
  have sm := pp_same se rows q
  have aok : (q.pa se rows).Ok := takes_ok ok.ok q.ls [] (by rw [List.append_nil]; exact ok.lets)
  have hkl := (List.getElem?_eq_some_iff.mp hk).1
  have co := came_ok aok (k := k) (by rw [sm.2.1]; exact hkl)
  have n1 := lq.n1; have n2 := lq.n2
  unfold allCame
  refine decide_eq_true ?_
  rw [sm.1]
  have h1 := nodup_le (l := (cameL (q.pa se rows) k).map (·.1)) (m := (ptsN se.n).erase q.num) co.nd fun y hy => by
    obtain ⟨x, hx, rfl⟩ := List.mem_map.mp hy
    obtain ⟨q1, q2, q3⟩ := co.inn x hx
    rw [sm.1] at q2
    rw [sm.2.2.1] at q3
    exact (List.mem_erase_of_ne q3).mpr (mem_ptsN.mpr ⟨q1, q2⟩)
  have h2 := nodup_le (l := (ptsN se.n).erase q.num) (m := (cameL (q.pa se rows) k).map (·.1)) (List.Nodup.sublist List.erase_sublist (ptsN_nodup _)) fun y hy => by
    have hne : y ≠ q.num := fun e => by
      rw [e] at hy
      exact (List.Nodup.mem_erase_iff (ptsN_nodup _)).mp hy |>.1 rfl
    obtain ⟨y1, y2⟩ := mem_ptsN.mp (List.mem_of_mem_erase hy)
    have := came_val sok po io lq hk y1 y2 (by
      unfold sendsM
      rw [if_neg hne]
      cases r <;> first | rfl | (simp [Row.tag] at ht; done))
    exact List.mem_map.mpr ⟨_, lookup_in this, rfl⟩
  rw [List.length_map, List.length_erase_of_mem (mem_ptsN.mpr ⟨n1, n2⟩), ptsN_len] at h1 h2
  omega
/-- the numbers that a party is told of a row product or kept: values of what each dealt -/
theorem told_eq (sok : se.Ok) (po : ProgOk se rows) (io : InOk se rows ins coins) {q : Pp} (lq : LawPp se rows ins coins q) {k : Nat} {r : Row} (hk : rows[k]? = some r) (ht : r.tag = 4 ∨ r.tag = 8) (l : List Int)
    (hp : polyM (q.pa se rows) k r l = (dlAt (runTo se rows ins coins rows.length).2 k).getD (q.num - 1) []) :
    toldM (q.pa se rows) k (valueAt (q.pa se rows).se.p (polyM (q.pa se rows) k r l) (q.pa se rows).num) = (ptsN se.n).map fun i => valueAt se.p ((dlAt (runTo se rows ins coins rows.length).2 k).getD (i - 1) []) (q.num : Int) := by
  have sm := pp_same se rows q
  unfold toldM
  rw [hp, sm.1, sm.2.2.1]
  apply List.map_congr_left
  intro i hi
  obtain ⟨i1, i2⟩ := mem_ptsN.mp hi
  by_cases e : i = q.num
  · rw [if_pos e, e]
  · rw [if_neg e, came_val sok po io lq hk i1 i2 (by
      unfold sendsM
      rw [if_neg e]
      cases r <;> first | rfl | (simp [Row.tag] at ht; done))]
    cases r <;> first | rfl | (simp [Row.tag] at ht; done)
theorem drawn_eq (io : InOk se rows ins coins) {q : Pp} (lq : LawPp se rows ins coins q) {k : Nat} {r : Row} (hk : rows[k]? = some r) (hm : mine q.num r = true) : drawnAt (q.pa se rows).se.t (q.pa se rows).num (q.pa se rows).rows (q.pa se rows).coins k = sliceM se rows coins q.num k r := by
  have sm := pp_same se rows q
  have hkl := (List.getElem?_eq_some_iff.mp hk).1
  rw [sm.1, sm.2.1, sm.2.2.1, sm.2.2.2.2, lq.hco]
  unfold drawnAt
  exact (own_mine io lq.n1 lq.n2 hk rows.length hkl (Nat.le_refl _)).2 hm
theorem input_eq (io : InOk se rows ins coins) {q : Pp} (lq : LawPp se rows ins coins q) {k : Nat} {r : Row} (hk : rows[k]? = some r) (hm : isIn q.num r = true) : (q.pa se rows).inputs.getD (usedAt q.num rows k) 0 = ins.getD (inN (rows.take k)) 0 := by
  have sm := pp_same se rows q
  have hkl := (List.getElem?_eq_some_iff.mp hk).1
  rw [sm.2.2.2.1, lq.hin]
  exact (own_mine io lq.n1 lq.n2 hk rows.length hkl (Nat.le_refl _)).1 hm
theorem ev_repl (x : Int) : ∀ n : Nat, ev (List.replicate n 0) x = 0
  | 0 => rfl
  | n + 1 => by show 0 + x * ev (List.replicate n 0) x = 0; rw [ev_repl x n, Int.mul_zero]; rfl
theorem getD_map_range {α : Type} (f : Nat → α) {n i : Nat} (h : i < n) (d : α) : ((List.range n).map f).getD i d = f i := by
  rw [List.getD_eq_getElem?_getD, List.getElem?_map, List.getElem?_range h]; rfl
/-- what a party reckons of a row is the value of the row's polynomial -/
theorem share_eq (sok : se.Ok) (po : ProgOk se rows) (io : InOk se rows ins coins) {q : Pp} (lq : LawPp se rows ins coins q) {k : Nat} {r : Row} (hk : rows[k]? = some r) {found : List (Option Int)}
    (hf : ∀ x ∈ r.named, found.getD x none = some (valueAt se.p (plAt (runTo se rows ins coins rows.length).1 x) (q.num : Int))) :
    shareM (q.pa se rows) k r found = shv se (runTo se rows ins coins rows.length).1 r k q.num := by
  have sm := pp_same se rows q
  have p2 := sok.p2
  have n1 := lq.n1; have n2 := lq.n2
  have hkl := (List.getElem?_eq_some_iff.mp hk).1
  have rok := po.rws.2 k r hk
  obtain ⟨ra1, ra2⟩ := run_at (ins := ins) (coins := coins) po hk
  have pl : ∀ l, polR se (runTo se rows ins coins rows.length).1 (dlAt (runTo se rows ins coins rows.length).2 k) r = some l → plAt (runTo se rows ins coins rows.length).1 k = l := fun l h => by
    unfold plAt
    rw [List.getD_eq_getElem?_getD, ra2, h]; rfl
  have hnd := needed_all hf
  have dg := deal_good sok io hk (runTo se rows ins coins rows.length).1
  rw [← ra1] at dg
  have wl : ∀ x ∈ r.named, Good se (plAt (runTo se rows ins coins rows.length).1 x) := fun x hx => by
    obtain ⟨r', h1, h2⟩ := po.wire k r hk x hx
    obtain ⟨l, h3, h4⟩ := pol_good sok po io rows.length (Nat.le_refl _) x r' (List.getElem?_eq_some_iff.mp h1).1 h1 h2
    unfold plAt
    rw [List.getD_eq_getElem?_getD, h3]; exact h4
  generalize hps : (runTo se rows ins coins rows.length).1 = ps at *
  cases r with
  | inp m =>
    rw [shareM_inp, sm.2.2.1]
    show _ = some (valueAt se.p (plAt ps k) (q.num : Int))
    by_cases e : m = q.num
    · have hin : isIn q.num (.inp m) = true := decide_eq_true e
      rw [if_pos e, sm.1]
      congr 2
      rw [pl _ rfl, ra1]
      unfold ownPoly
      rw [drawn_eq io lq hk (by unfold mine; exact decide_eq_true e), sm.2.2.1, sm.2.1, input_eq io lq hk hin]; rfl
    · rw [if_neg e, came_val sok po io lq hk rok.2.1 rok.2.2 (by unfold sendsM; rw [if_neg e]; exact decide_eq_true rfl)]
      rw [hps]; rfl
  | const c =>
    show some c = some (valueAt se.p (plAt ps k) (q.num : Int))
    rw [pl _ rfl, valueAt_ev]
    show some c = some ((c + (q.num : Int) * ev (List.replicate se.t 0) (q.num : Int)) % se.p)
    rw [ev_repl, Int.mul_zero, Int.add_zero, Int.emod_eq_of_lt rok.2.1 rok.2.2]
  | out a j => rfl
  | next => rfl
  | times c a =>
    rw [shareM_reck (.inr (.inr rfl)), hnd, sm.1]
    show some ((c * valueAt se.p (plAt ps a) (q.num : Int)) % se.p) = some (valueAt se.p (plAt ps k) (q.num : Int))
    rw [pl _ rfl, polySum_at se.p (q.num : Int) (m := se.t + 1) (by simp) (fun r hr => by rw [List.mem_singleton.mp hr]; exact (wl a (by simp [Row.named])).1)]
    show _ = some (sumZ _ (List.range 1) % se.p)
    rw [sumZ_range1]; rfl
  | sum a b =>
    rw [shareM_reck (.inl rfl), hnd, sm.1]
    show some ((valueAt se.p (plAt ps a) (q.num : Int) + valueAt se.p (plAt ps b) (q.num : Int)) % se.p) = some (valueAt se.p (plAt ps k) (q.num : Int))
    rw [pl _ rfl, polySum_at se.p (q.num : Int) (m := se.t + 1) (by simp) (fun r hr => by
      rcases List.mem_cons.mp hr with e | e
      · rw [e]; exact (wl a (by simp [Row.named])).1
      · rw [List.mem_singleton.mp e]; exact (wl b (by simp [Row.named])).1)]
    show _ = some (sumZ _ (List.range 2) % se.p)
    rw [sumZ_range2]
    show _ = some ((1 * valueAt se.p (plAt ps a) (q.num : Int) + 1 * valueAt se.p (plAt ps b) (q.num : Int)) % se.p)
    rw [Int.one_mul, Int.one_mul]
  | less a b =>
    rw [shareM_reck (.inr (.inl rfl)), hnd, sm.1]
    show some ((valueAt se.p (plAt ps a) (q.num : Int) + (0 - valueAt se.p (plAt ps b) (q.num : Int))) % se.p) = some (valueAt se.p (plAt ps k) (q.num : Int))
    rw [pl _ rfl, polySum_at se.p (q.num : Int) (m := se.t + 1) (by simp) (fun r hr => by
      rcases List.mem_cons.mp hr with e | e
      · rw [e]; exact (wl a (by simp [Row.named])).1
      · rw [List.mem_singleton.mp e]; exact (wl b (by simp [Row.named])).1)]
    show _ = some (sumZ _ (List.range 2) % se.p)
    rw [sumZ_range2]
    show _ = some ((1 * valueAt se.p (plAt ps a) (q.num : Int) + (-1) * valueAt se.p (plAt ps b) (q.num : Int)) % se.p)
    rw [Int.one_mul, Int.neg_mul, Int.one_mul, Int.zero_sub]
  | prod a b =>
    have hd : ((((q.num - 1 : Nat) : Nat) : Int) + 1) = (q.num : Int) := by omega
    have hpo : polyM (q.pa se rows) k (.prod a b) [valueAt se.p (plAt ps a) (q.num : Int), valueAt se.p (plAt ps b) (q.num : Int)] = (dlAt (runTo se rows ins coins rows.length).2 k).getD (q.num - 1) [] := by
      rw [ra1]
      show _ = (List.map _ (List.range se.n)).getD (q.num - 1) []
      rw [getD_map_range _ (by omega), hd]
      unfold polyM
      rw [drawn_eq io lq hk rfl, sm.1]; rfl
    have hdl : (dlAt (runTo se rows ins coins rows.length).2 k).length = se.n := by rw [ra1]; exact deal_len 0 _ _ _ (.inl rfl)
    rw [shareM_joined (.inl rfl), hnd]
    show joinedM (q.pa se rows) k (.prod a b) [valueAt se.p (plAt ps a) (q.num : Int), valueAt se.p (plAt ps b) (q.num : Int)] = some (valueAt se.p (plAt ps k) (q.num : Int))
    unfold joinedM
    rw [if_pos (all_came sok po io lq hk (.inl rfl)), told_eq sok po io lq hk (.inl rfl) _ hpo]
    simp only
    rw [sm.1, weights_lw se.p (pts se.n) 0 (pts_nodup _), pl _ rfl, polySum_at se.p (q.num : Int) (m := se.t + 1) (by omega) (fun r hr => (dg r hr).1), hdl]
    congr 1
    refine sumZ_mod se.p _ _ _ fun i hi => ?_
    have hi := List.mem_range.mp hi
    have e : ((ptsN se.n).map fun i => valueAt se.p ((dlAt (runTo se rows ins coins rows.length).2 k).getD (i - 1) []) (q.num : Int)).getD i 0 = valueAt se.p ((dlAt (runTo se rows ins coins rows.length).2 k).getD i []) (q.num : Int) := by
      unfold ptsN
      rw [List.map_map, getD_map_range _ hi]; rfl
    rw [e]; rfl
  | kept a =>
    have hpo : polyM (q.pa se rows) k (.kept a) [valueAt se.p (plAt ps a) (q.num : Int)] = (dlAt (runTo se rows ins coins rows.length).2 k).getD (q.num - 1) [] := by
      rw [ra1]
      show _ = (List.map _ (List.range se.n)).getD (q.num - 1) []
      rw [getD_map_range _ (by omega)]
      unfold polyM
      rw [drawn_eq io lq hk rfl]; rfl
    have hdl : (dlAt (runTo se rows ins coins rows.length).2 k).length = se.n := by rw [ra1]; exact deal_len 0 _ _ _ (.inr rfl)
    rw [shareM_joined (.inr rfl), hnd]
    show joinedM (q.pa se rows) k (.kept a) [valueAt se.p (plAt ps a) (q.num : Int)] = some (valueAt se.p (plAt ps k) (q.num : Int))
    unfold joinedM
    rw [if_pos (all_came sok po io lq hk (.inr rfl)), told_eq sok po io lq hk (.inr rfl) _ hpo]
    simp only
    rw [sm.1, pl _ rfl, polySum_at se.p (q.num : Int) (m := se.t + 1) (by simp) (fun r hr => by
      rcases List.mem_cons.mp hr with e | e
      · rw [e]; exact (wl a (by simp [Row.named])).1
      · exact (dg r e).1), List.length_cons, hdl, sumZ_shift, sum_ptsN]
    have e0 : (List.replicate (se.n + 1) (1 : Int)).getD 0 0 * valueAt se.p ((plAt ps a :: dlAt (runTo se rows ins coins rows.length).2 k).getD 0 []) (q.num : Int) = valueAt se.p (plAt ps a) (q.num : Int) := by
      rw [List.replicate_succ]
      show (1 : Int) * valueAt se.p (plAt ps a) (q.num : Int) = _
      rw [Int.one_mul]
    rw [e0, Int.add_comm]
    congr 1
    refine mod_add rfl (sumZ_mod se.p _ _ _ fun i hi => ?_)
    have hi := List.mem_range.mp hi
    have e1 : (List.replicate (se.n + 1) (1 : Int)).getD (i + 1) 0 = 1 := by
      rw [List.getD_eq_getElem?_getD, List.getElem?_replicate, if_pos (by omega)]; rfl
    show valueAt se.p ((dlAt (runTo se rows ins coins rows.length).2 k).getD (i + 1 - 1) []) (q.num : Int) % se.p = ((List.replicate (se.n + 1) (1 : Int)).getD (i + 1) 0 * valueAt se.p ((plAt ps a :: dlAt (runTo se rows ins coins rows.length).2 k).getD (i + 1) []) (q.num : Int)) % se.p
    rw [e1, Int.one_mul]; rfl
end
end Un
set_option maxHeartbeats 4000000
/-! what the watchers saw is what the law's view says -/
namespace Un
section
variable {se : Se} {rows : List Row} {ins coins : List Int}
theorem sh_to (sok : se.Ok) (po : ProgOk se rows) (io : InOk se rows ins coins) {q : Pp} (lq : LawPp se rows ins coins q) : ∀ n, n ≤ rows.length → ∀ (k : Nat) (r : Row), k < n → rows[k]? = some r → (shTo (q.pa se rows) n).getD k none = shv se (runTo se rows ins coins rows.length).1 r k q.num
  | 0, _, k, r, hk, _ => absurd hk (Nat.not_lt_zero k)
  | n + 1, hn, k, r, hk, hr => by
    have sm := pp_same se rows q
    have ln := shTo_len (q.pa se rows) n
    rw [shTo, sm.2.1, List.getD_eq_getElem?_getD]
    by_cases e : k < n
    · rw [List.getElem?_append_left (by omega), ← List.getD_eq_getElem?_getD]
      exact sh_to sok po io lq n (by omega) k r e hr
    · have e : k = n := by omega
      subst e
      rw [List.getElem?_append_right (by omega), ln, Nat.sub_self, hr]
      show shareM (q.pa se rows) k r (shTo (q.pa se rows) k) = _
      refine share_eq sok po io lq hr fun x hx => ?_
      obtain ⟨r', h1, h2⟩ := po.wire k r hr x hx
      rw [sh_to sok po io lq k (by omega) x r' ((po.rws.2 k r hr).1 x hx) h1]
      cases r' <;> first | rfl | (exact absurd (.inl rfl) h2) | (exact absurd (.inr rfl) h2)
theorem shl_at (sok : se.Ok) (po : ProgOk se rows) (io : InOk se rows ins coins) {q : Pp} (lq : LawPp se rows ins coins q) {k : Nat} {r : Row} (hk : rows[k]? = some r) (h : hasP r) : shAtM rows (q.pa se rows) k = some (valueAt se.p (plAt (runTo se rows ins coins rows.length).1 k) (q.num : Int)) := by
  unfold shAtM
  rw [sh_to sok po io lq rows.length (Nat.le_refl _) k r (List.getElem?_eq_some_iff.mp hk).1 hk]
  cases r <;> first | rfl | (exact absurd (.inl rfl) h) | (exact absurd (.inr rfl) h)
theorem cfl_at (sok : se.Ok) (po : ProgOk se rows) (io : InOk se rows ins coins) {q : Pp} (lq : LawPp se rows ins coins q) {k j : Nat} {r : Row} (hk : rows[k]? = some r) (j1 : 1 ≤ j) (j2 : j ≤ se.n) (hs : sendsM r j q.num = true) : cfM (q.pa se rows) k j = numL2 se (runTo se rows ins coins rows.length).1 (runTo se rows ins coins rows.length).2 k r j q.num := by
  unfold cfM
  rw [came_val sok po io lq hk j1 j2 hs]; rfl
/-- the crew: each watcher's party stands under its paper -/
theorem crew_law {qs : List Pp} (hq : ∀ q ∈ qs, LawPp se rows ins coins q) {i : Nat} (h : ∃ q ∈ qs, q.num = i) : ∃ q, LawPp se rows ins coins q ∧ q.num = i ∧ crewM se rows qs i = q.pa se rows := by
  obtain ⟨q, h1, h2, h3, _⟩ := crew_find (se := se) (rows := rows) h
  exact ⟨q, hq q h1, h2, by unfold crewM; rw [h3]⟩
theorem shares_view (sok : se.Ok) (po : ProgOk se rows) (io : InOk se rows ins coins) {qs : List Pp} (hq : ∀ q ∈ qs, LawPp se rows ins coins q) {k : Nat} {r : Row} (hk : rows[k]? = some r) (hp : hasP r) {so : List Nat} (hs : ∀ i ∈ so, ∃ q ∈ qs, q.num = i) : sharesOfM rows (crewM se rows qs) k so = sentM se (plAt (runTo se rows ins coins rows.length).1 k) so := by
  unfold sharesOfM sentM
  congr 1
  refine List.map_congr_left fun i hi => ?_
  obtain ⟨q, h1, h2, h3⟩ := crew_law hq (hs i hi)
  rw [h3, shl_at sok po io h1 hk hp, h2]; rfl
theorem seen_view (sok : se.Ok) (po : ProgOk se rows) (io : InOk se rows ins coins) {qs : List Pp} (hq : ∀ q ∈ qs, LawPp se rows ins coins q) {k : Nat} {r : Row} (hk : rows[k]? = some r) (ht : r.tag = 4 ∨ r.tag = 8) {so : List Nat} (hs : ∀ i ∈ so, ∃ q ∈ qs, q.num = i) : seenByM se rows (crewM se rows qs) k so = .tup (lseenM se.p (dlAt (runTo se rows ins coins rows.length).2 k) so) := by
  obtain ⟨ra1, _⟩ := run_at (ins := ins) (coins := coins) po hk
  have hdl : (dlAt (runTo se rows ins coins rows.length).2 k).length = se.n := by rw [ra1]; exact deal_len 0 _ _ _ ht
  unfold seenByM lseenM
  congr 1
  rw [hdl]
  unfold ptsN
  rw [List.map_map]
  refine List.map_congr_left fun m hm => ?_
  have hm := List.mem_range.mp hm
  show (if m + 1 ∈ so then _ else _) = _
  by_cases e : m + 1 ∈ so
  · rw [if_pos e, if_pos e]
    obtain ⟨q, h1, h2, h3⟩ := crew_law hq (hs (m + 1) e)
    have sm := pp_same se rows q
    have de := drawn_eq io h1 hk (by cases r <;> first | rfl | (simp [Row.tag] at ht; done))
    rw [sm.1, sm.2.1, sm.2.2.1, h2] at de
    rw [h3, de, ra1]
    congr 2
    cases r <;> first | (simp [Row.tag] at ht; done) | skip
    all_goals
      show _ = ((List.map _ (List.range se.n)).getD m []).drop 1
      rw [getD_map_range _ hm]; rfl
  · rw [if_neg e, if_neg e]
    congr 1
    refine List.map_congr_left fun o ho => ?_
    obtain ⟨q, h1, h2, h3⟩ := crew_law hq (hs o ho)
    show D.int (cfM (crewM se rows qs o) k (m + 1)) = _
    have hne : ¬ m + 1 = q.num := fun h => e (by rw [h, h2]; exact ho)
    rw [h3, cfl_at (j := m + 1) sok po io h1 hk (by omega) (by omega) (by
      unfold sendsM
      rw [if_neg hne]
      cases r <;> first | rfl | (simp [Row.tag] at ht; done)), h2]
    cases r <;> first | rfl | (simp [Row.tag] at ht; done)
theorem item_view (sok : se.Ok) (po : ProgOk se rows) (io : InOk se rows ins coins) {qs : List Pp} (hq : ∀ q ∈ qs, LawPp se rows ins coins q) {ws : List (List Nat)} (wok : WsOk se rows ws (fun i => ∃ q ∈ qs, q.num = i)) {k : Nat} (hkl : k < rows.length) : itemM se rows ws (crewM se rows qs) k = viewM se rows ws ins coins k := by
  have hk : rows[k]? = some rows[k] := List.getElem?_eq_getElem hkl
  generalize rows[k] = r at hk
  obtain ⟨ra1, ra2⟩ := run_at (ins := ins) (coins := coins) po hk
  have wmem : ∀ i ∈ wkM rows ws k, ∃ q ∈ qs, q.num = i := fun i hi => by
    have he := wok.ep k hkl
    unfold wkM at hi
    rw [List.getD_eq_getElem?_getD, List.getElem?_eq_getElem he] at hi
    exact wok.mem _ (List.getElem_mem he) i hi
  have bmem : ∀ i ∈ bothM rows ws k, ∃ q ∈ qs, q.num = i := fun i hi => wmem i (List.mem_filter.mp hi).1
  unfold itemM viewM
  rw [hk]
  show itemR se rows ws (crewM se rows qs) k r = viewR se rows ws _ _ k r
  cases r with
  | inp j =>
    have hp : hasP (.inp j) := by intro h; simp [Row.tag] at h
    show (if j ∈ wkM rows ws k then _ else _) = (if j ∈ wkM rows ws k then _ else _)
    by_cases e : j ∈ wkM rows ws k
    · rw [if_pos e, if_pos e]
      obtain ⟨q, h1, h2, h3⟩ := crew_law hq (wmem j e)
      have sm := pp_same se rows q
      have de := drawn_eq io h1 hk (by show decide (j = q.num) = true; exact decide_eq_true h2.symm)
      have ie := input_eq io h1 hk (by show decide (j = q.num) = true; exact decide_eq_true h2.symm)
      rw [sm.1, sm.2.1, sm.2.2.1, h2] at de
      rw [h2] at ie
      have pk : plAt (runTo se rows ins coins rows.length).1 k = ins.getD (inN (rows.take k)) 0 :: (coins.drop (coinsN se (rows.take k))).take se.t := by
        unfold plAt
        rw [List.getD_eq_getElem?_getD, ra2, ra1]; rfl
      rw [h3, de, ie, pk]; rfl
    · rw [if_neg e, if_neg e, shares_view sok po io hq hk hp wmem]
  | prod a b =>
    show seenByM se rows (crewM se rows qs) k (wkM rows ws k) = _
    rw [seen_view sok po io hq hk (.inl rfl) wmem]; rfl
  | kept a =>
    have hp : hasP (.kept a) := by intro h; simp [Row.tag] at h
    show D.tup [seenByM se rows (crewM se rows qs) k (bothM rows ws k), sharesOfM rows (crewM se rows qs) k (wkM rows ws k)] = _
    rw [seen_view sok po io hq hk (.inr rfl) bmem, shares_view sok po io hq hk hp wmem]; rfl
  | out a j =>
    show (if j ∈ wkM rows ws k then _ else _) = (if j ∈ wkM rows ws k then _ else _)
    by_cases e : j ∈ wkM rows ws k
    · rw [if_pos e, if_pos e]
      obtain ⟨q, h1, h2, h3⟩ := crew_law hq (wmem j e)
      show D.tup (List.map _ _) = D.tup (List.map _ _)
      rw [h3]
      congr 1
      refine List.map_congr_left fun o ho => ?_
      obtain ⟨o1, o2⟩ := mem_ptsN.mp ho
      by_cases eo : o = j
      · rw [if_pos eo]
        obtain ⟨r', w1, w2⟩ := po.wire k _ hk a (by simp [Row.named])
        rw [shl_at sok po io h1 w1 w2, h2, eo]; rfl
      · rw [if_neg eo, cfl_at sok po io h1 hk o1 o2 (by
          unfold sendsM
          rw [if_neg (by rw [h2]; exact eo)]
          exact decide_eq_true h2.symm)]; rfl
    · rw [if_neg e, if_neg e]
  | _ => rfl
end
end Un
set_option maxHeartbeats 4000000
/-! lists turned round: the order gives a list of the things themselves -/
namespace Un
theorem perm_pre {α β : Type} (f : α → β) {es m : List β} (h : es.Perm m) : ∀ l : List α, m = l.map f → ∃ l' : List α, l'.Perm l ∧ es = l'.map f := by
  induction h with
  | nil => intro l e; exact ⟨l, .refl _, e⟩
  | cons x _ ih =>
    intro l e
    cases l with
    | nil => cases e
    | cons a l =>
      rw [List.map_cons] at e
      injection e with e1 e2
      obtain ⟨l', h1, h2⟩ := ih l e2
      exact ⟨a :: l', .cons a h1, by rw [List.map_cons, ← h2, ← e1]⟩
  | swap x y s =>
    intro l e
    match l, e with
    | a :: b :: l, e =>
      rw [List.map_cons, List.map_cons] at e
      injection e with e1 e2
      injection e2 with e2 e3
      exact ⟨b :: a :: l, .swap a b l, by rw [List.map_cons, List.map_cons, ← e1, ← e2, ← e3]⟩
  | trans _ _ ih1 ih2 =>
    intro l e
    obtain ⟨l1, h1, h2⟩ := ih2 l e
    obtain ⟨l2, h3, h4⟩ := ih1 l1 h2
    exact ⟨l2, h3.trans h1, h4⟩
section
variable {se : Se} {rows : List Row} {ins coins : List Int}
/-- the letters to a party, as data -/
theorem lets_to (se : Se) (rows : List Row) (ins coins : List Int) {num : Nat} (h : num ∈ ptsN se.n) : ((llM se rows ins coins).filter fun l => decide (l.1 = num)).map ld = (mineLets se rows (runTo se rows ins coins rows.length).1 (runTo se rows ins coins rows.length).2 num rows.length).map (letD num) := by
  rw [← lets_mine h, List.map_map]
  refine List.map_congr_left fun l hl => ?_
  have e : l.1 = num := of_decide_eq_true (List.mem_filter.mp hl).2
  show letD l.1 l.2 = letD num l.2
  rw [e]
/-- the paper of a party from a list of its letters turned round -/
theorem paper_of {num : Nat} (n1 : 1 ≤ num) (n2 : num ≤ se.n) {es : List D} (h : es.Perm (((llM se rows ins coins).filter fun l => decide (l.1 = num)).map ld)) : ∃ q : Pp, q.num = num ∧ es = q.ls.map (letD num) ∧ LawPp se rows ins coins q := by
  rw [lets_to se rows ins coins (mem_ptsN.mpr ⟨n1, n2⟩)] at h
  obtain ⟨ls, h1, h2⟩ := perm_pre (letD num) h _ rfl
  exact ⟨⟨num, (ownTo se rows ins coins num rows.length).1, (ownTo se rows ins coins num rows.length).2, ls⟩, rfl, h2, n1, n2, rfl, rfl, h1⟩
/-- what _law_paper asks of a paper -/
theorem paper_fit (sok : se.Ok) (po : ProgOk se rows) (io : InOk se rows ins coins) {q : Pp} (lq : LawPp se rows ins coins q) : q.num ≤ 100 ∧ q.inputs.length ≤ 1000 ∧ q.coins.length ≤ 1000 ∧ q.ls.length ≤ 500 ∧ (∀ z ∈ q.inputs, 0 ≤ z ∧ z < 100000) ∧ (∀ z ∈ q.coins, 0 ≤ z ∧ z < 100000) ∧ (∀ l ∈ q.ls, l.1 < 1000 ∧ l.2.1 < 1000 ∧ 0 ≤ l.2.2 ∧ l.2.2 < 100000) := by
  have ok := pp_ok sok po io lq
  have hz := po.rws.1
  have n2 := sok.n2; have p3 := sok.p3; have tn := sok.tn
  have q2 := lq.n2
  have ol := ownTo_len se rows ins coins q.num rows.length
  have tl : rows.length * se.t ≤ 60 * 5 := Nat.mul_le_mul hz (by omega)
  obtain ⟨r1, r2⟩ := own_range (num := q.num) io sok rows.length (Nat.le_refl _)
  refine ⟨by omega, by rw [lq.hin]; omega, by rw [lq.hco]; omega, ok.lets.len, fun z hz => ?_, fun z hz => ?_, fun l hl => ?_⟩
  · rw [lq.hin] at hz; have := r1 z hz; exact ⟨this.1, by omega⟩
  · rw [lq.hco] at hz; have := r2 z hz; exact ⟨this.1, by omega⟩
  · have h := ok.lets.ok l hl
    have h1 := h.k; have h2 := h.i2; have h3 := h.x1; have h4 := h.x2
    have sm : (q.new se rows).se = se := rfl
    have sr : (q.new se rows).rows = rows := rfl
    simp only [sm, sr] at h1 h2 h4
    exact ⟨by omega, by omega, h3, by omega⟩
end
end Un
set_option maxHeartbeats 4000000
/-! Un: a def whose promise stands where no repr is under way (A.guards = some []) -/
namespace Un
open PySem L2 PyProof.Rows PySem.Spec
structure FnG (P : Program) (w : World) (K : PySem.W.Frag) (mg : Str → Option Value) (base : Heap) (k : Nat) (g : Addr) (fd : FuncData) (ps : List Str) (sp : Sp) : Prop where
  len : ∀ vs H Q E, sp vs H Q E → vs.length = ps.length
  run : ∀ (A : Around) (outer : List Env) (s : Shared) (H : Hp) (args : Args) (us : List Value) (vs : List V) (Q : VK) (E : XK), A.guards = some [] → Room k A → Env0 P w K mg base A outer s H → BindsTo s fd args (ps.zip us) → Vals vs us → sp vs H Q E → codeAny (model P w) A (.call (.ref g) args) (CR CX0 outer P w H s Q E) s
section
variable {P : Program} {w : World} {K : PySem.W.Frag} {mg : Str → Option Value} {base : Heap}
theorem fn_G {x qual : Str} {st : Stmt} {g : Addr} {fd : FuncData} {N ps : List Str} {k : Nat} {sp : Sp} (F : Fun K x qual st g fd) (sc : FnScope N ps (defScope st)) (ln : ∀ vs H Q E, sp vs H Q E → vs.length = ps.length)
    (hb : ∀ (cdv : Value) (A : Around) (outer : List Env) (s : Shared) (H : Hp) (vs : List V) (Q : VK) (E : XK), A.guards = some [] → Room k (bX P w K mg base N qual st g cdv A outer s H E).A → sp vs H Q E → ∃ t, PSs (bX P w K mg base N qual st g cdv A outer s H E) (defBody st) t ∧ t { nx := fun _ H' => Q .non H', rt := Q } (L2.start N vs) H) : FnG P w K mg base (k + 1) g fd ps sp := by
  obtain ⟨oc, od, kV, doc, pm, an, cdv, ct, osl, rfl, lk, hcd⟩ := F.ex
  refine ⟨ln, fun A outer s H args us vs Q E hgd room e0 bd rel hs => ?_⟩
  have vlen := ln _ _ _ _ hs
  have inn : K.In s.heap := e0.mod.kin.keeps fun b o e => (e0.bs b o e).1
  have nolim : s.heap.NoLimit := e0.mod.nolimit.keeps fun b o e => (e0.bs b o e).1
  have kinds : ∀ y ∈ ps.zip us, (defScope st).names.lookup y.1 = some .local ∨ ((defScope st).names.lookup y.1 = some .cell ∧ ((cellsFrom (s.heap.objs.size + 1) (defScope st).names []).lookup y.1).isSome = true) := fun y hy => (sc.par y.1 (List.of_mem_zip (a := y.1) (b := y.2) hy).1).imp id fun q => ⟨q, PySem.W.cellsFrom_some _ _ _ (.inl q)⟩
  refine codeAny_call_function room.depth (inn _ _ lk) rfl sc.co sc.gen rfl (PySem.W.codeRec_of inn hcd) (bd _ _ _ _ (wpAny_newFunctionEnv_cells sc.kind kinds fun env he s1 xx => ?_))
  subst he
  refine ⟨nolim.keeps xx.toInCall.keep, codeAny_func ?_⟩
  obtain ⟨t, ht, hq⟩ := hb cdv A outer s H vs Q E hgd (room.deeper _) hs
  have J0 := inv_start (CX := CX0) (E := E) sc room.hd e0 vlen rel xx
  have fin : ∀ {σ' : L2.St} {H' : Hp} {v : V} {u : Value} {s' : Shared}, Inv (cxOf CX0 P w K mg base N qual (defScope st) g cdv A outer s H E) [] σ' H' s' → RelV v u → Q v H' → CE outer P w H s Q u s' := fun {σ' H' v u s'} J rv q => ⟨v, H', J.os, J.bare, J.base, J.hok, rv, q⟩
  refine wpAny_mono (ht.nox.run [] s1 (L2.start N vs) H _ J0 hq) (fun fl s' hs => ?_) fun e s' hs => hs
  match fl, hs with
  | .ret u, ⟨v, σ', H', J, rv, q⟩ => exact fin J rv q
  | .next, ⟨σ', H', J, q⟩ => exact fin (v := V.non) (u := Value.none) J rfl q
  | .brk, ⟨_, _, _, q⟩ => exact q.elim
  | .cont, ⟨_, _, _, q⟩ => exact q.elim
end
structure GloG (P : Program) (w : World) (K : PySem.W.Frag) (mg : Str → Option Value) (base : Heap) (x : Str) (k : Nat) (ps : List Str) (sp : Sp) : Prop where
  ex : ∃ g fd, FnG P w K mg base k g fd ps sp ∧ mg x = some (.ref g) ∧ PySem.W.keepIn K (.ref g) = true ∧ Binds K fd ps []
section
variable {X : Cx} {f : Fm} {δ : List Sl} {k n : Nat} {ps : List Str} {x : Str} {p pos : Pos} {e : Expr} {es : List Expr}
theorem pe_callGd {g : Addr} {fd : FuncData} {sp : Sp} {t : TA} (F : FnG X.prog X.w X.K X.mg X.base k g fd ps sp) (gd : X.A.guards = some []) (hr : Room k X.A) (hg : Gl X x) (hm : X.mg x = some (.ref g)) (hk : PySem.W.keepIn X.K (.ref g) = true) (hb : Binds X.K fd ps [])
    (ha : PA X (e :: es) t) (hdb : (x == ("__debug__" : Str)) = false := by decide) (he : starEach (e :: es) X.env = (false, eval e X.env) :: starEach es X.env := by rfl) (hpl : (backTo pos (starEach es X.env)).any (·.1) = false := by rfl) : PE X (.Call (.Name x p) (e :: es) [] pos) (tCall sp [] (fun _ _ _ => False) t) := by
  refine ⟨fun pins s σ H Q I h => wpAny_Call_Name_kw (ld_glob I hg hm (PySem.W.callWith_K (h₀ := X.base) I.ok.mod.kin hk (thn (ha.run pos pins s σ H _ I h) fun us s1 ⟨vs, H1, I1, r, q⟩ => ⟨I1.kIn, ?_⟩) he hpl) hdb)⟩
  have q : sp (vs ++ []) H1 Q (fun _ _ _ => False) := q
  rw [List.append_nil] at q
  have hl : us.length = ps.length := by rw [← r.length]; exact F.len _ _ _ _ q
  have bd := hb s1 us I1.kIn (by rw [List.append_nil]; exact hl)
  rw [List.append_nil] at bd
  refine wpAny_call (codeAny_mono (F.run X.A X.stack s1 H1 ⟨us, []⟩ us vs Q _ gd hr I1.env0 bd r q) fun z s' hq => ?_)
  match z, hq with
  | .error e, hq => exact hq.elim
  | .ok (.ret u), hq => exact I1.after hq
  | .ok .next, hq => exact hq.elim
  | .ok .brk, hq => exact hq.elim
  | .ok .cont, hq => exact hq.elim
end
end Un
set_option maxHeartbeats 4000000
/-! Un: repr of data -/
namespace Un
open PySem L2 PyProof.Rows PySem.Spec
def repOk (d : D) : Prop := pureD d = true ∧ (pyD d).showable = true ∧ (pyD d).hasDict = false ∧ (pyD d).depth ≤ 60 ∧ (pyD d).shown.length ≤ sizeLine
section
variable {X : Cx} {f : Fm} {δ : List Sl} {p pos : Pos} {e : Expr}
theorem cr_repr (gd : X.A.guards = some []) (hu : X.A.units + 64 < cLine) : CallR X (.builtin "repr") (fun xs H Q => ∃ (a : Addr) (d : PyData), xs = [.ref a] ∧ Dp X.K H (.ref a) d ∧ d.showable = true ∧ d.hasDict = false ∧ d.depth ≤ 60 ∧ d.shown.length ≤ sizeLine ∧ Q (.str d.shown) H) := by
  intro pins s σ H xs us Q I r h
  obtain ⟨a, d, rfl, hd, h1, h2, h3, h4, q⟩ := h
  obtain ⟨u, rfl, ru⟩ := vals1 r
  obtain rfl : u = Value.ref a := ru
  obtain ⟨as, rd⟩ := Dp.reads I d (.ref a) (.ref a) hd rfl
  exact repr_of_reads' rd h1 (fun z => by rw [h2] at z; cases z) gd (by omega) (fun _ _ z => z) (fun h' u tk k => ⟨.str d.shown, H, I.kept k, ⟨u, rfl⟩, q⟩) h4
theorem x_repr {ds : List D} (gd : X.A.guards = some []) (hu : X.A.units + 64 < cLine) (hg : Gl X "repr") (hm : X.mg "repr" = none) (ha : PE X e (tD X.K f δ (.tup ds))) (ok : repOk (.tup ds)) (he : starEach (e :: []) X.env = (false, eval e X.env) :: starEach [] X.env := by rfl) (hpl : (backTo pos (starEach [] X.env)).any (·.1) = false := by rfl) :
    PE X (.Call (.Name "repr" p) [e] [] pos) (tD X.K f δ (.str (pyD (.tup ds)).shown)) :=
  pe_imp (pe_callB (cr_repr gd hu) hg hm (by decide +kernel) (pa_cons ha pa_nil he) (by decide) (by decide) he hpl) fun σ H Q ⟨G, rp, q⟩ => ⟨G, rp, fun v d G' H' t e z => by
    subst e
    have z' := z
    obtain ⟨a, xs, rfl, _, _⟩ := z.tup_inv
    exact ⟨a, pyD (.tup ds), rfl, dat_dp ok.1 (z'.mono (rp.step t).gh), ok.2.1, ok.2.2.1, ok.2.2.2.1, ok.2.2.2.2, q _ _ G' H' t rfl dat_str⟩⟩
end
def S_lsame (ds : List D) (d : D) : Prop := ∃ l : List D, ds = [.tup l, .tup l] ∧ repOk (.tup l) ∧ d = .bl true
section
variable {P : Program} {w : World} {K : PySem.W.Frag} {mg : Str → Option Value} {base : Heap} {C : Addr} {g : Addr} {fd : FuncData}
abbrev s__law_same : Stmt := top 57
abbrev N__law_same : List Str := ["_law_actual", "_law_due"]
theorem sc__law_same : FnScope N__law_same ["_law_actual", "_law_due"] (defScope s__law_same) := ⟨rfl, rfl, rfl, by decide +kernel, rfl, by decide +kernel, by decide +kernel⟩
end
end Un
set_option maxHeartbeats 4000000
/-! Un: _law_same -/
namespace Un
open PySem L2 PyProof.Rows PySem.Spec
section
variable {P : Program} {w : World} {K : PySem.W.Frag} {mg : Str → Option Value} {base : Heap} {C : Addr}
theorem fn_DG {x qual : Str} {st : Stmt} {g : Addr} {fd : FuncData} {N ps : List Str} {k n : Nat} {S : List D → D → Prop} (F : Fun K x qual st g fd) (sc : FnScope N ps (defScope st)) (hn : ps.length = n)
    (hb : ∀ (cdv : Value) (A : Around) (outer : List Env) (s : Shared) (H : Hp) (E : XK) (G : Hp) (ds : List D) (d : D), (bX P w K mg base N qual st g cdv A outer s H E).A.guards = some [] → Room k (bX P w K mg base N qual st g cdv A outer s H E).A → S ds d → PSs (bX P w K mg base N qual st g cdv A outer s H E) (defBody st) (tX K (pf C G H) (ent N ds) (fun _ => False) (retD K (pf C G H) d))) :
    FnG P w K mg base (k + 1) g fd ps (spD K C n S) := by
  refine fn_G F sc (fun vs H Q E h => ?_) (fun cdv A outer s H vs Q E gd hr h => ?_)
  · obtain ⟨G, ds, d, hl, sb, z, _⟩ := h
    exact z.len.symm.trans (hl.trans hn.symm) |>.symm ▸ rfl
  · obtain ⟨G, ds, d, hl, sb, z, hS, q⟩ := h
    refine ⟨_, hb cdv A outer s H E G ds d gd hr hS, G, rep_start (f := pf C G H) sb True.intro (fun _ m => m.elim) z, fun _ _ _ _ z => z.elim, fun v H' ⟨d', G', t, e1, z2⟩ => ?_⟩
    subst e1
    exact q v G' H' t.p z2
end
section
variable {X : Cx} {f : Fm} {δ : List Sl} {k n : Nat} {ps : List Str} {x : Str} {p pos : Pos} {e : Expr} {es : List Expr}
theorem x_callGd {S : List D → D → Prop} {ds : List D} {d : D} (c : GloG X.prog X.w X.K X.mg X.base x k ps (spD X.K f.C n S)) (gd : X.A.guards = some []) (hr : Room k X.A) (ha : PA X (e :: es) (tL X.K f δ ds)) (hS : ds.length = n ∧ S ds d)
    (hg : Gl X x := by rfl) (hdb : (x == ("__debug__" : Str)) = false := by decide) (he : starEach (e :: es) X.env = (false, eval e X.env) :: starEach es X.env := by rfl) (hpl : (backTo pos (starEach es X.env)).any (·.1) = false := by rfl) : PE X (.Call (.Name x p) (e :: es) [] pos) (tD X.K f δ d) := by
  obtain ⟨g, fd, F, hm, hk, hb⟩ := c.ex
  refine pe_imp (pe_callGd F gd hr hg hm hk hb ha hdb he hpl) fun σ H Q ⟨G, rp, q⟩ => ⟨G, rp, fun vs ds' G1 H1 t1 p1 z1 => ?_⟩
  subst p1
  rw [List.append_nil]
  exact ⟨G1, ds', d, hS.1, t1.gh, z1, hS.2, fun v G' H' t z => q v d G' H' (t1.trans (t.step (rp.step t1).hM)) rfl z⟩
end
section
variable {P : Program} {w : World} {K : PySem.W.Frag} {mg : Str → Option Value} {base : Heap} {C : Addr} {g : Addr} {fd : FuncData}
theorem ok_law_same (B : Bt mg) (hrep : mg "repr" = none) (F : Fun K "_law_same" "_law_same" s__law_same g fd) : FnG P w K mg base 1 g fd ["_law_actual", "_law_due"] (spD K C 2 S_lsame) := by
  refine fn_DG F sc__law_same rfl fun cdv A outer s H E G ds d gd hr hS => ?_
  obtain ⟨l, rfl, ok, rfl⟩ := hS
  have nd := sc__law_same.nd
  exact s_one (s_ret (x_eq (x_cmp op_eq rd_eqS (x_repr gd hr.units rfl hrep (x_of (pv 0) rfl) ok) (x_repr gd hr.units rfl hrep (x_of (pv 1) rfl) ok) (nomark _)) (by rw [decide_eq_true rfl])))
end
end Un
set_option maxHeartbeats 4000000
/-! the view's text is short -/
namespace Un
open PySem
theorem pysD_len : ∀ ds : List D, (pysD ds).length = ds.length
  | [] => rfl
  | d :: ds => by simp only [pysD, List.length_cons, pysD_len ds]
structure Vd (n m : Nat) (d : D) : Prop where
  pure : pureD d = true
  show_ : (pyD d).showable = true
  nod : (pyD d).hasDict = false
  dp : (pyD d).depth ≤ n
  len : (pyD d).shown.length ≤ m
theorem Vd.all {n m : Nat} : ∀ ds : List D, (∀ d ∈ ds, Vd n m d) → pureDs ds = true ∧ PyData.showableAll (pysD ds) = true ∧ PyData.hasDictAll (pysD ds) = false ∧ PyData.depthAll (pysD ds) ≤ n ∧ ((PyData.shownAll (pysD ds)).map (·.length)).sum ≤ ds.length * m
  | [], _ => ⟨rfl, rfl, rfl, Nat.zero_le _, Nat.zero_le _⟩
  | d :: ds, h => by
    have a := h d List.mem_cons_self
    obtain ⟨h1, h2, h3, h4, h5⟩ := Vd.all ds fun x hx => h x (List.mem_cons_of_mem _ hx)
    have e : (ds.length + 1) * m = ds.length * m + m := Nat.succ_mul _ _
    have l := a.len
    have dp := a.dp
    refine ⟨?_, ?_, ?_, ?_, ?_⟩
    · simp only [pureDs, a.pure, h1, Bool.and_self]
    · simp only [pysD, PyData.showableAll, a.show_, h2, Bool.and_self]
    · simp only [pysD, PyData.hasDictAll, a.nod, h3, Bool.or_self]
    · simp only [pysD, PyData.depthAll]
      omega
    · simp only [pysD, PyData.shownAll, List.map_cons, List.sum_cons, List.length_cons]
      omega
theorem Vd.tup {n m z : Nat} {ds : List D} (h : ∀ d ∈ ds, Vd n m d) (k : ds.length * (m + 2) + 3 ≤ z) : Vd (n + 1) z (.tup ds) := by
  obtain ⟨h1, h2, h3, h4, h5⟩ := Vd.all ds h
  have t := tupleText_len_le (PyData.shownAll (pysD ds))
  have l : (PyData.shownAll (pysD ds)).length = ds.length := by rw [PyData.shownAll_length, pysD_len]
  have e : ds.length * (m + 2) = ds.length * m + ds.length * 2 := Nat.mul_add _ _ _
  refine ⟨?_, ?_, ?_, ?_, ?_⟩
  · simp only [pureD, h1]
  · simp only [pyD, PyData.showable, h2]
  · simp only [pyD, PyData.hasDict, h3]
  · simp only [pyD, PyData.depth]; omega
  · simp only [pyD, PyData.shown]; omega
theorem Vd.mono {n m n' m' : Nat} {d : D} (h : Vd n m d) (a : n ≤ n') (b : m ≤ m') : Vd n' m' d := ⟨h.pure, h.show_, h.nod, Nat.le_trans h.dp a, Nat.le_trans h.len b⟩
theorem Vd.int {i : Int} (h1 : 0 ≤ i) (h2 : i < 100000) : Vd 0 8 (.int i) := by
  refine ⟨rfl, ?_, rfl, Nat.le_refl _, ?_⟩
  · simp only [pyD, PyData.showable]
    refine decide_eq_true ?_
    by_cases e : i.natAbs = 0
    · rw [e]; decide
    · exact Nat.lt_of_lt_of_le ((Nat.log2_lt e).mpr (show i.natAbs < 2 ^ 17 by have : (2 : Nat) ^ 17 = 131072 := by decide
                                                                               omega)) (by decide)
  · simp only [pyD, PyData.shown]
    exact PyProof.Rows.toString_length_le h1 (by decide) (by omega)
theorem Vd.own : Vd 0 8 (.str "own") := ⟨rfl, rfl, rfl, Nat.le_refl _, by decide +kernel⟩
theorem Vd.sent : Vd 0 8 (.str "sent") := ⟨rfl, rfl, rfl, Nat.le_refl _, by decide +kernel⟩
theorem vd_ints {n : Nat} {l : List Int} (h : ∀ z ∈ l, 0 ≤ z ∧ z < 100000) (hl : l.length ≤ 100) : Vd (n + 1) 1010 (.tup (inz l)) := by
  refine Vd.tup (m := 8) (fun d hd => ?_) (by unfold inz; rw [List.length_map]; omega)
  obtain ⟨z, hz, rfl⟩ := List.mem_map.mp hd
  exact (Vd.int (h z hz).1 (h z hz).2).mono (Nat.zero_le _) (Nat.le_refl _)
section
variable {se : Se} {rows : List Row} {ins coins : List Int}
theorem vd_val (sok : se.Ok) (l : List Int) (x : Int) : Vd 0 8 (.int (valueAt se.p l x)) := by
  have p2 := sok.p2; have p3 := sok.p3
  obtain ⟨h1, h2⟩ := valueAt_range (show 0 < se.p by omega) l x
  exact Vd.int h1 (by omega)
theorem vd_sent (sok : se.Ok) {n : Nat} (l : List Int) {so : List Nat} (h : so.length ≤ 100) : Vd (n + 1) 1010 (sentM se l so) := by
  unfold sentM
  refine Vd.tup (m := 8) (fun d hd => ?_) (by rw [List.length_map]; omega)
  obtain ⟨z, hz, rfl⟩ := List.mem_map.mp hd
  exact (vd_val sok _ _).mono (Nat.zero_le _) (Nat.le_refl _)
theorem vd_lseen (sok : se.Ok) {many : List (List Int)} (hm : many.length ≤ 5) (hg : ∀ l ∈ many, ∀ z ∈ l.drop 1, 0 ≤ z ∧ z < 100000) (hl : ∀ l ∈ many, l.length ≤ 100) {so : List Nat} (h : so.length ≤ 100) : Vd 2 5100 (.tup (lseenM se.p many so)) := by
  unfold lseenM
  refine Vd.tup (m := 1010) (fun d hd => ?_) (by rw [List.length_map, List.length_range]; omega)
  obtain ⟨k, hk, rfl⟩ := List.mem_map.mp hd
  have hk := List.mem_range.mp hk
  have e : many.getD k [] = many[k] := by rw [List.getD_eq_getElem?_getD, List.getElem?_eq_getElem hk]; rfl
  show Vd 1 1010 (if k + 1 ∈ so then _ else _)
  split
  · rw [e]
    exact vd_ints (hg _ (List.getElem_mem hk)) (by rw [List.length_drop]; have := hl _ (List.getElem_mem hk); omega)
  · exact vd_sent (n := 0) sok _ h
end
end Un
set_option maxHeartbeats 4000000
/-! the view can be shown -/
namespace Un
open PySem
section
variable {se : Se} {rows : List Row} {ins coins : List Int}
theorem vd_view (sok : se.Ok) (po : ProgOk se rows) (io : InOk se rows ins coins) {ws : List (List Nat)} (wl : ∀ l ∈ ws, l.length ≤ 100) {k : Nat} (hkl : k < rows.length) : Vd 4 10300 (viewM se rows ws ins coins k) := by
  have hk : rows[k]? = some rows[k] := List.getElem?_eq_getElem hkl
  generalize rows[k] = r at hk
  have p3 := sok.p3; have n2 := sok.n2; have tn := sok.tn
  obtain ⟨ra1, ra2⟩ := run_at (ins := ins) (coins := coins) po hk
  have dg := deal_good sok io hk (runTo se rows ins coins rows.length).1
  rw [← ra1] at dg
  have wk : (wkM rows ws k).length ≤ 100 := by
    unfold wkM
    rw [List.getD_eq_getElem?_getD]
    cases e : ws[epochM rows k]? with
    | none => exact Nat.zero_le _
    | some l => exact wl l (List.mem_of_getElem? e)
  have bk : (bothM rows ws k).length ≤ 100 := Nat.le_trans (List.length_filter_le _ _) wk
  have pg : hasP r → Good se (plAt (runTo se rows ins coins rows.length).1 k) := fun hp => by
    obtain ⟨l, h3, h4⟩ := pol_good sok po io rows.length (Nat.le_refl _) k r hkl hk hp
    unfold plAt
    rw [List.getD_eq_getElem?_getD, h3]; exact h4
  have ls : r.tag = 4 ∨ r.tag = 8 → ∀ so : List Nat, so.length ≤ 100 → Vd 2 5100 (.tup (lseenM se.p (dlAt (runTo se rows ins coins rows.length).2 k) so)) := fun ht so hs => by
    refine vd_lseen sok (by rw [ra1, deal_len 0 _ _ _ ht]; exact n2) (fun l hl z hz => ?_) (fun l hl => ?_) hs
    · have := (dg l hl).2 z (List.mem_of_mem_drop hz); exact ⟨this.1, by omega⟩
    · have := (dg l hl).1; omega
  have e0 : Vd 4 10300 (.tup []) := (Vd.tup (n := 0) (m := 8) (z := 3) (fun d hd => by cases hd) (Nat.le_refl _)).mono (by omega) (by omega)
  unfold viewM
  rw [hk]
  show Vd 4 10300 (viewR se rows ws _ _ k r)
  cases r with
  | inp j =>
    have g := pg (by intro h; simp [Row.tag] at h)
    have gl := g.1
    have gr : ∀ z ∈ plAt (runTo se rows ins coins rows.length).1 k, 0 ≤ z ∧ z < 100000 := fun z hz => by have := g.2 z hz; exact ⟨this.1, by omega⟩
    show Vd 4 10300 (if j ∈ wkM rows ws k then _ else _)
    split
    · refine (Vd.tup (n := 1) (m := 1010) (z := 3100) (fun d hd => ?_) (by simp)).mono (by omega) (by omega)
      rcases List.mem_cons.mp hd with rfl | hd
      · exact Vd.own.mono (by omega) (by omega)
      rcases List.mem_cons.mp hd with rfl | hd
      · have hz : (plAt (runTo se rows ins coins rows.length).1 k).getD 0 0 ∈ plAt (runTo se rows ins coins rows.length).1 k := by
          rw [List.getD_eq_getElem?_getD, List.getElem?_eq_getElem (by omega)]
          exact List.getElem_mem _
        exact (Vd.int (gr _ hz).1 (gr _ hz).2).mono (by omega) (by omega)
      · rw [List.mem_singleton.mp hd]
        exact vd_ints (fun z hz => gr z (List.mem_of_mem_drop hz)) (by rw [List.length_drop]; omega)
    · refine (Vd.tup (n := 1) (m := 1010) (z := 3100) (fun d hd => ?_) (by simp)).mono (by omega) (by omega)
      rcases List.mem_cons.mp hd with rfl | hd
      · exact Vd.sent.mono (by omega) (by omega)
      · rw [List.mem_singleton.mp hd]
        exact vd_sent sok _ wk
  | prod a b => exact (ls (.inl rfl) _ wk).mono (by omega) (by omega)
  | kept a =>
    refine (Vd.tup (n := 2) (m := 5100) (z := 10300) (fun d hd => ?_) (by simp)).mono (by omega) (by omega)
    rcases List.mem_cons.mp hd with rfl | hd
    · exact ls (.inr rfl) _ bk
    · rw [List.mem_singleton.mp hd]
      exact (vd_sent (n := 0) sok _ wk).mono (by omega) (by omega)
  | out a j =>
    show Vd 4 10300 (if j ∈ wkM rows ws k then _ else _)
    split
    · refine (Vd.tup (n := 0) (m := 8) (z := 100) (fun d hd => ?_) (by rw [List.length_map, ptsN_len]; omega)).mono (by omega) (by omega)
      obtain ⟨i, _, rfl⟩ := List.mem_map.mp hd
      exact vd_val sok _ _
    · exact e0
  | _ => exact e0
theorem rep_view (sok : se.Ok) (po : ProgOk se rows) (io : InOk se rows ins coins) {ws : List (List Nat)} (wl : ∀ l ∈ ws, l.length ≤ 100) : repOk (.tup ((List.range rows.length).map (viewM se rows ws ins coins))) := by
  have hz := po.rws.1
  have v := Vd.tup (n := 4) (m := 10300) (z := 618123) (ds := (List.range rows.length).map (viewM se rows ws ins coins)) (fun d hd => by
    obtain ⟨k, hk, rfl⟩ := List.mem_map.mp hd
    exact vd_view sok po io wl (List.mem_range.mp hk)) (by
    rw [List.length_map, List.length_range]
    have := Nat.mul_le_mul_right 10302 hz
    omega)
  exact ⟨v.pure, v.show_, v.nod, Nat.le_trans v.dp (by omega), Nat.le_trans v.len (by rw [sizeLine_eq]; omega)⟩
end
end Un
set_option maxHeartbeats 4000000
/-! the box is made: the frame turns from pf to bF -/
namespace Un
open PySem L2
section
variable {X : Cx} {C : Addr} {G0 H0 : Hp} {δ : List Sl}
theorem s_box {i : Nat} {y : Str} {e0 e1 : Expr} {pn lp pos : Pos} {rest : List Stmt} {N : List Sl → Prop} {R : V → Hp → Prop}
    (hN : X.N.Nodup) (hi : X.N[i]? = some y) (hx : Loc X.env.scope y) (hl : i < δ.length)
    (ha : PA X [e0, e1] (tAP X.K (pf C G0 H0) δ fun ds => ∃ ns, ds = [.lst (inz ns), .int 0] ∧ DigOk ns)) (hno : ∀ i, okSl (dAt δ i) = true)
    (h : ∀ b G2 H2, PSs X rest (tX X.K (bF X.K C b G2 H2) (δ.set i (.pin b)) (fun _ => False) R))
    (hs : swapsWith (.List [e0, e1] lp) (some (.Name y pn)) pos.line X.env = pure false := by rfl) (hf : X.fn y = true ∨ X.env.scope.names.lookup y = some .local := by first | exact .inl rfl | exact .inr rfl | assumption) :
    PSs X (.Assign [.Name y pn] (.List [e0, e1] lp) pos :: rest) (tX X.K (pf C G0 H0) δ N R) := by
  refine pss_imp (pss_cons (ps_set hN hi hx (pe_lst ha) hs hf) (pss_ex (α := Addr × Hp × Hp) (p := fun _ => True) (t := fun z => tX X.K (bF X.K C z.1 z.2.1 z.2.2) (δ.set i (.pin z.1)) (fun _ => False) R) fun z _ => h z.1 z.2.1 z.2.2)) fun Dn σ H ⟨G, rp, hn, hr⟩ => ⟨G, rp, fun vs ds G1 H1 t1 e1 z1 => ?_⟩
  obtain ⟨ns, rfl, dg⟩ := e1
  obtain ⟨dv, r1, rfl, zd, z2⟩ := z1.inv
  obtain ⟨iv, r2, rfl, zi, z3⟩ := z2.inv
  obtain rfl := z3.inv0
  rw [zi.int_inv]
  refine ⟨by show (2 : Nat) ≤ _; decide, fun p hp => ?_⟩
  have rp1 := rp.step t1
  have gp : G1 p = none := t1.gh.none hp
  have gh2 : Sub G1 (upd H1 p (.lst [dv, .int 0])) := t1.gh.trans (Sub.new hp)
  have bo : BoxOk X.K C G1 (upd H1 p (.lst [dv, .int 0])) p := ⟨dv, 0, ns, upd_same, Int.le_refl 0, zd, dg⟩
  refine ⟨(p, G1, upd H1 p (.lst [dv, .int 0])), True.intro, G1, ⟨gh2, bo, fun a m => ?_, fun a m => ?_, Step.refl gh2, by rw [List.length_set, List.length_set]; exact rp1.len, fun j => ?_, fun j k l q _ _ _ => ?_⟩, fun _ _ _ _ f => f.elim, hr⟩
  · cases m; exact ⟨gp, by rw [upd_same]; exact fun z => by cases z⟩
  · cases m; show upd H1 p _ p ≠ none; rw [upd_same]; exact fun z => by cases z
  · rw [dAt_set hl, sAt_set (by rw [rp1.len]; exact hl)]
    by_cases e : i = j
    · rw [if_pos e, if_pos e]; exact rfl
    · rw [if_neg e, if_neg e]
      have s := rp1.slot j
      have no := hno j
      cases q : dAt δ j with
      | no => exact True.intro
      | dat d => rw [q] at s; exact s
      | own _ => rw [q] at no; cases no
      | pin _ => rw [q] at no; cases no
      | ownd _ => rw [q] at no; cases no
  · rw [dAt_set hl] at q
    by_cases e : i = j
    · rw [if_pos e] at q; cases q
    · rw [if_neg e] at q
      have no := hno j
      cases q2 : dAt δ j with
      | no => rw [q2] at q; cases q
      | dat d => rw [q2] at q; cases q
      | own _ => rw [q2] at no; cases no
      | pin _ => rw [q2] at no; cases no
      | ownd _ => rw [q2] at no; cases no
end
end Un
set_option maxHeartbeats 4000000
/-! data tell the setting and the program -/
namespace Un
theorem se_inj {a b : Se} (h : a.d = b.d) : a = b := by
  obtain ⟨p, n, t⟩ := a
  obtain ⟨p', n', t'⟩ := b
  unfold Se.d at h
  injection h with h
  injection h with _ h
  injection h with h1 h
  injection h with h2 h
  injection h with h3 _
  injection h1 with h1
  injection h2 with h2
  injection h3 with h3
  simp only at h1 h2 h3
  have e2 : n = n' := by omega
  have e3 : t = t' := by omega
  rw [h1, e2, e3]
theorem kind_inj : ∀ a b : Fin 9, kindS a = kindS b → a = b := by decide +kernel
theorem row_inj {a b : Row} (h : a.d = b.d) : a = b := by
  unfold Row.d at h
  injection h with h
  injection h with h1 h2
  injection h1 with h1
  have ht := kind_inj _ _ h1
  cases a <;> cases b <;> first | rfl | (simp [Row.tag] at ht; done) | (simp only [Row.args, List.cons.injEq, D.int.injEq, and_true] at h2; simp only [Row.inp.injEq, Row.const.injEq, Row.sum.injEq, Row.less.injEq, Row.prod.injEq, Row.times.injEq, Row.out.injEq, Row.kept.injEq]; omega)
theorem rows_inj : ∀ {a b : List Row}, a.map Row.d = b.map Row.d → a = b
  | [], [], _ => rfl
  | [], _ :: _, h => by cases h
  | _ :: _, [], h => by cases h
  | x :: a, y :: b, h => by
    rw [List.map_cons, List.map_cons] at h
    injection h with h1 h2
    rw [row_inj h1, rows_inj h2]
theorem prog_inj {a b : List Row} (h : progD a = progD b) : a = b := by
  unfold progD at h
  injection h with h
  injection h with _ h
  injection h with h _
  injection h with h
  exact rows_inj h
theorem two_inj {se se' : Se} {rows rows' : List Row} (h : [se.d, progD rows] = [se'.d, progD rows']) : se' = se ∧ rows' = rows := by
  injection h with h1 h
  injection h with h2 _
  exact ⟨(se_inj h1).symm, (prog_inj h2).symm⟩
end Un
set_option maxHeartbeats 4000000
/-! the def law -/
namespace Un
open PySem L2 PyProof.Rows PySem.Spec TL
def spLaw (K : PySem.W.Frag) (C : Addr) : Sp := fun vs H Q _ => ∃ (G : Hp) (ns : List Int), Sub G H ∧ Dats K C G [.scr ns] vs ∧ ∀ H', Q (.bl true) H'
theorem llM_len {se : Se} {rows : List Row} (sok : se.Ok) (hz : rows.length ≤ 60) (ins coins : List Int) : (llM se rows ins coins).length ≤ 1500 := by
  unfold llM letsL
  have := flat_len (rowL se rows (runTo se rows ins coins rows.length).1 (runTo se rows ins coins rows.length).2) 25 (List.range rows.length) fun k _ => rowL_len sok rows _ _ k
  rw [List.length_range] at this
  omega
theorem paper_line {num : Nat} {ins coins : List Int} {ls : List Let} (hn : num ≤ 100) (il : ins.length ≤ 1000) (cl : coins.length ≤ 1000) (hi : ∀ z ∈ ins, 0 ≤ z ∧ z < 100000) (hc : ∀ z ∈ coins, 0 ≤ z ∧ z < 100000) (hls : ∀ l ∈ ls, l.1 < 1000 ∧ l.2.1 < 1000 ∧ 0 ≤ l.2.2 ∧ l.2.2 < 100000) : ∀ l ∈ paperL num ins coins ls, l.length ≤ 11011 := fun l hl => by
  unfold paperL at hl
  simp only [List.mem_cons] at hl
  rcases hl with rfl | rfl | rfl | hl
  · exact Nat.le_trans (line_len (by decide +kernel) fun z hz => by rw [List.mem_singleton.mp hz]; omega) (le_ rfl)
  · refine Nat.le_trans (line_len (by decide +kernel) hi) ?_
    have := Nat.mul_le_mul_right 11 (show ins.length + 1 ≤ 1001 by omega); omega
  · refine Nat.le_trans (line_len (by decide +kernel) hc) ?_
    have := Nat.mul_le_mul_right 11 (show coins.length + 1 ≤ 1001 by omega); omega
  · obtain ⟨x, hx, rfl⟩ := List.mem_map.mp hl
    refine Nat.le_trans (line_len (by decide +kernel) fun z hz => ?_) (le_ rfl)
    have := hls x hx
    simp only [List.mem_cons, List.not_mem_nil, or_false] at hz
    omega
theorem paper_few {num : Nat} {ins coins : List Int} {ls : List Let} (h : ls.length ≤ 500) : (paperL num ins coins ls).length ≤ 100000 := by
  unfold paperL; simp; omega
theorem line_nl {l : Str} (h : l.length ≤ 11011) : (l ++ Str.ofString "\n").length ≤ 11012 := by
  rw [len_tl, tl_append, List.length_append, ← len_tl, show (tl (Str.ofString "\n")).length = 1 by decide +kernel]
  omega
theorem line_fit {l : Str} (h : l.length ≤ 11011) : l.length + (Str.ofString "\n").length ≤ sizeLine := by
  rw [show (Str.ofString "\n").length = 1 by decide +kernel]
  have : (20000 : Nat) ≤ sizeLine := by decide
  omega
theorem paper_join {num : Nat} {ins coins : List Int} {ls : List Let} (h : ls.length ≤ 500) (hl : ∀ l ∈ paperL num ins coins ls, l.length ≤ 11011) : ((((paperL num ins coins ls).map fun l => l ++ Str.ofString "\n")).map (·.length)).sum + (((paperL num ins coins ls).map fun l => l ++ Str.ofString "\n")).length * (Str.ofString "").length ≤ 16777216 := by
  have := sum_len_le (m := 11012) ((paperL num ins coins ls).map fun l => l ++ Str.ofString "\n") fun s hs => by
    obtain ⟨x, hx, rfl⟩ := List.mem_map.mp hs
    exact line_nl (hl x hx)
  rw [List.length_map] at this ⊢
  have hlen : (paperL num ins coins ls).length ≤ 503 := by unfold paperL; simp; omega
  rw [show (Str.ofString "").length = 0 by decide +kernel]
  have := Nat.mul_le_mul_right 11012 hlen
  omega
section
variable {P : Program} {w : World} {K : PySem.W.Frag} {mg : Str → Option Value} {base : Heap} {C : Addr} {g : Addr} {fd : FuncData}
abbrev s__law : Stmt := top 81
abbrev N__law : List Str := ["_law_script", "_law_box", "_law_turn", "_law_setting", "_law_program_here", "_law_inputs_here", "_law_coins_here", "_law_watchers_here", "_law_letters_here", "_law_papers", "_law_party", "_law_own_here", "_law_took", "_law_told", "_law_some", "_law_letter", "_law_line"]
theorem sc__law : FnScope N__law ["_law_script"] (defScope s__law) := ⟨rfl, rfl, rfl, by decide +kernel, rfl, by decide +kernel, by decide +kernel⟩
theorem ok_law (B : Bt mg) (c_law_digits : Glo P w K mg base "_law_digits" 2 ["_law_script", "_law_first", "_law_last"] (spP K C 3 PreDig PostDig)) (c_law_few : Glo P w K mg base "_law_few" 3 ["_law_box"] (spB K C 0 PreNone PostFew))
    (c_law_program : Glo P w K mg base "_law_program" 3 ["_law_box", "_law_setting", "_law_most", "_law_turns"] (spB K C 3 PreProg PostProg)) (c_law_inputs : Glo P w K mg base "_law_inputs" 4 ["_law_box", "_law_setting", "_law_program_here"] (spB K C 2 PreIn PostIn)) (c_law_coins : Glo P w K mg base "_law_coins" 2 ["_law_box", "_law_setting", "_law_program_here"] (spB K C 2 PreIn PostCo))
    (c_law_watchers : Glo P w K mg base "_law_watchers" 2 ["_law_box", "_law_setting", "_law_program_here"] (spB K C 2 PreIn PostWa)) (c_law_letters : Glo P w K mg base "_law_letters" 5 ["_law_setting", "_law_program_here", "_law_inputs_here", "_law_coins_here"] (spN K C 4 S_lletters)) (c_law_own : Glo P w K mg base "_law_own" 1 ["_law_setting", "_law_program_here", "_law_inputs_here", "_law_coins_here", "_law_party"] (spD K C 5 S_lown))
    (c_law_turned : Glo P w K mg base "_law_turned" 2 ["_law_box", "_law_things"] (spBN K C 1 PreTurn PostTurn)) (c_law_paper : Glo P w K mg base "_law_paper" 1 ["_law_party", "_law_own_here", "_law_took"] (spN K C 3 S_lpaper)) (c_seen : Glo P w K mg base "seen" 11 ["setting", "program", "papers", "watchers"] (spD K C 4 S_seen)) (c_law_view : Glo P w K mg base "_law_view" 5 ["_law_setting", "_law_program_here", "_law_inputs_here", "_law_coins_here", "_law_watchers_here"] (spD K C 5 S_lview))
    (c_law_same : GloG P w K mg base "_law_same" 1 ["_law_actual", "_law_due"] (spD K C 2 S_lsame))
    (F : Fun K "law" "law" s__law g fd) : FnG P w K mg base 13 g fd ["_law_script"] (spLaw K C) := by
  refine fn_G F sc__law (fun vs H Q E ⟨G, ns, sb, z, q⟩ => z.len.symm ▸ rfl) (fun cdv A outer s H vs Q E gd hr h => ?_)
  obtain ⟨G, ns, sb, z, q⟩ := h
  have nd := sc__law.nd
  refine ⟨tX K (pf C G H) (ent N__law [.scr ns]) (fun _ => False) (fun v _ => v = .bl true), ?_, G, rep_start (f := pf C G H) sb True.intro (fun _ m => m.elim) z, fun _ _ _ _ z => z.elim, fun v H' e => by rw [e]; exact q H'⟩
  refine s_box (i := 1) nd rfl (.inl rfl) (lt_ rfl) (a_consP (P := fun d => ∃ ns, d = .lst (inz ns) ∧ DigOk ns) (Ps := fun ds => ds = [.int 0]) (x_frzP (x_callP2 (R := fun ds => ∃ ns, ds = inz ns ∧ DigOk ns) c_law_digits (hr.mono (by decide)) (a_cons (x_of (pv 0) rfl) (a_cons x_int (a_cons x_int a_nil))) rfl ⟨ns, 63, rfl, by decide⟩ (fun d ⟨ns, e, h⟩ => ⟨ns, e, h⟩)) (fun ds ⟨ns, e, h⟩ => ⟨ns, by rw [e], h⟩)) (a_cons x_int a_nil) (fun d ds ⟨ns, e, h⟩ k => ⟨ns, by rw [e, k], h⟩)) (fun i => ?_) (fun b G2 H2 => ?_)
  · match i with
    | 0 => rfl
    | n + 1 => show okSl (dAt (List.replicate 16 Sl.no) n) = true; unfold dAt; rw [List.getD_eq_getElem?_getD, List.getElem?_replicate]; split <;> rfl
  refine s_cons (N1 := fun e => ∃ v2 v3 v4 v5 v6 v7 v8 v9 v10 v11 v12 v13 v14 v15 v16, e = [.dat (.scr ns), .pin b, v2, v3, v4, v5, v6, v7, v8, v9, v10, v11, v12, v13, v14, v15, v16])
    (s_forr (lo := 0) (n := 2) (j := 2) (fun i e => ∃ v2 v3 v4 v5 v6 v7 v8 v9 v10 v11 v12 v13 v14 v15 v16, e = [.dat (.scr ns), .pin b, v2, v3, v4, v5, v6, v7, v8, v9, v10, v11, v12, v13, v14, v15, v16]) PassesOwn.never rfl (i_rng1 (by omega) rfl B.range x_int) (pg_name (i := 2) nd rfl (.inl rfl)) ?_ ?_ ?_ ?_) ?_
  · exact ⟨.no, .no, .no, .no, .no, .no, .no, .no, .no, .no, .no, .no, .no, .no, .no, rfl⟩
  · rintro i _ ⟨v2, v3, v4, v5, v6, v7, v8, v9, v10, v11, v12, v13, v14, v15, v16, rfl⟩; exact lt_ rfl
  · rintro i _ hi ⟨v2, v3, v4, v5, v6, v7, v8, v9, v10, v11, v12, v13, v14, v15, v16, rfl⟩
    refine s_cons (s_setP (i := 3) (P := fun d => ∃ se : Se, d = se.d ∧ se.Ok) nd rfl (.inl rfl) (lt_ rfl) (x_callB (Ps := fun ds => ds = []) c_law_few (hr.mono (by decide)) (pv 1) rfl a_nil (fun ds e => ⟨by rw [e]; rfl, e, fun d h => h⟩))) ?_
    rintro _ ⟨_, ⟨se, rfl, sok⟩, rfl⟩
    refine s_cons (s_setP (i := 4) (P := fun d => ∃ rows, d = progD rows ∧ ProgOk se rows ∧ 0 < rows.length) nd rfl (.inl rfl) (lt_ rfl) (x_callB (Ps := fun ds => ds = [se.d, .int 10, .int 2]) c_law_program (hr.mono (by decide)) (pv 1) rfl (a_cons (x_of (pv 3) rfl) (a_cons x_int (a_cons x_int a_nil))) (fun ds e => ⟨by rw [e]; rfl, ⟨se, 10, 2, e, sok, by decide, by decide⟩, fun d ⟨se', m, z', rows, e', h1, h2, h3, h4⟩ => by
      rw [e] at e'
      injection e' with e1 _
      exact ⟨rows, h1, by rw [se_inj e1]; exact h2, h3⟩⟩))) ?_
    rintro _ ⟨_, ⟨rows, rfl, po, r0⟩, rfl⟩
    have hz := po.rws.1
    have pin : PreIn [se.d, progD rows] := ⟨se, rows, rfl, sok, hz, r0⟩
    refine s_cons (s_setP (i := 5) (P := fun d => ∃ l, d = .tup (inz l) ∧ l.length = inN rows ∧ Rz se.p l) nd rfl (.inl rfl) (lt_ rfl) (x_callB (Ps := fun ds => ds = [se.d, progD rows]) c_law_inputs (hr.mono (by decide)) (pv 1) rfl (a_cons (x_of (pv 3) rfl) (a_cons (x_of (pv 4) rfl) a_nil)) (fun ds e => ⟨by rw [e]; rfl, by rw [e]; exact pin, fun d ⟨se', rows', l, e', h1, h2, h3⟩ => by
      rw [e] at e'
      obtain ⟨e1, e2⟩ := two_inj e'
      subst e1 e2
      exact ⟨l, h1, h2, h3⟩⟩))) ?_
    rintro _ ⟨_, ⟨ins, rfl, il, ir⟩, rfl⟩
    refine s_cons (s_setP (i := 6) (P := fun d => ∃ l, d = .tup (inz l) ∧ l.length = coinsN se rows ∧ Rz se.p l) nd rfl (.inl rfl) (lt_ rfl) (x_callB (Ps := fun ds => ds = [se.d, progD rows]) c_law_coins (hr.mono (by decide)) (pv 1) rfl (a_cons (x_of (pv 3) rfl) (a_cons (x_of (pv 4) rfl) a_nil)) (fun ds e => ⟨by rw [e]; rfl, by rw [e]; exact pin, fun d ⟨se', rows', l, e', h1, h2, h3⟩ => by
      rw [e] at e'
      obtain ⟨e1, e2⟩ := two_inj e'
      subst e1 e2
      exact ⟨l, h1, h2, h3⟩⟩))) ?_
    rintro _ ⟨_, ⟨coins, rfl, cl, cr⟩, rfl⟩
    refine s_cons (s_setP (i := 7) (P := fun d => ∃ ws : List (List Nat), d = watD ws ∧ (∀ k, k < rows.length → epochM rows k < ws.length) ∧ (∀ l ∈ ws, l.length ≤ 100 ∧ ∀ i ∈ l, 1 ≤ i ∧ i ≤ se.n) ∧ ws.length ≤ 100) nd rfl (.inl rfl) (lt_ rfl) (x_callB (Ps := fun ds => ds = [se.d, progD rows]) c_law_watchers (hr.mono (by decide)) (pv 1) rfl (a_cons (x_of (pv 3) rfl) (a_cons (x_of (pv 4) rfl) a_nil)) (fun ds e => ⟨by rw [e]; rfl, by rw [e]; exact pin, fun d ⟨se', rows', l, e', h1, h2, h3⟩ => by
      rw [e] at e'
      obtain ⟨e1, e2⟩ := two_inj e'
      subst e1 e2
      exact ⟨l, h1, h2, h3⟩⟩))) ?_
    rintro _ ⟨_, ⟨ws, rfl, wep, wok, wsl⟩, rfl⟩
    have io : InOk se rows ins coins := ⟨il, ir, cl, cr⟩
    refine s_seq (s_setN (i := 8) nd rfl (.inl rfl) (lt_ rfl) (x_callN c_law_letters (hr.mono (by decide)) (a_cons (x_of (pv 3) rfl) (a_cons (x_of (pv 4) rfl) (a_cons (x_of (pv 5) rfl) (a_cons (x_of (pv 6) rfl) a_nil)))) ⟨rfl, se, rows, ins, coins, rfl, sok, po, io, rfl⟩) rfl) ?_
    refine s_seq (s_setN (i := 9) nd rfl (.inl rfl) (lt_ rfl) (x_lst a_nil) rfl) ?_
    let PQ : Nat → List Pp → Prop := fun i qs => (∀ q ∈ qs, LawPp se rows ins coins q) ∧ (qs.map Pp.num).Nodup ∧ (∀ q ∈ qs, q.num ≤ i) ∧ (∀ j, 1 ≤ j → j ≤ i → (∃ l ∈ ws, j ∈ l) → ∃ q ∈ qs, q.num = j) ∧ qs.length ≤ i
    let St : List Pp → Sl → Sl → Sl → Sl → Sl → Sl → Sl → List Sl := fun qs v10 v11 v12 v13 v14 v15 v16 => [.dat (.scr ns), .pin b, .dat (.int (0 + (i : Nat))), .dat se.d, .dat (progD rows), .dat (.tup (inz ins)), .dat (.tup (inz coins)), .dat (watD ws), .own ((llM se rows ins coins).map ld), .own (qs.map fun q => .str q.text), v10, v11, v12, v13, v14, v15, v16]
    have n1 := sok.n1; have n2 := sok.n2
    refine s_cons (N1 := fun e => ∃ qs v10 v11 v12 v13 v14 v15 v16, e = St qs v10 v11 v12 v13 v14 v15 v16 ∧ PQ se.n qs) (s_forr (lo := 1) (n := se.n) (j := 10) (fun m e => ∃ qs v10 v11 v12 v13 v14 v15 v16, e = St qs v10 v11 v12 v13 v14 v15 v16 ∧ PQ m qs) PassesOwn.never rfl (by
      have e : ((se.n : Int) + 1 - 1).toNat = se.n := by omega
      rw [← e]
      exact i_rng2 (by omega) (by omega) rfl B.range x_int (x_add (x_ixt (x_of (pv 3) rfl) x_int rfl) x_int)) (pg_name (i := 10) nd rfl (.inr rfl)) ?_ ?_ ?_ ?_) ?_
    · exact ⟨[], v10, v11, v12, v13, v14, v15, v16, rfl, fun q h => (by cases h), List.nodup_nil, fun q h => (by cases h), fun j h1 h2 _ => absurd h1 (by omega), Nat.le_refl _⟩
    · rintro m _ ⟨qs, v10, v11, v12, v13, v14, v15, v16, rfl, _⟩; exact lt_ rfl
    · rintro m _ hm ⟨qs, v10, v11, v12, v13, v14, v15, v16, rfl, hq, hnd, hle, hall, hlen⟩
      have ep : (1 : Int) + ((m : Nat) : Int) = ((m + 1 : Nat) : Int) := by omega
      rw [ep]
      refine s_one (s_if (k := ws.any fun l => decide (m + 1 ∈ l)) ?_ (fun hc => ?_) (fun hc => ?_))
      · refine t_is (t_in x_bl (o_l (o_new (x_lca (l := ws) (h := fun l => .tup (natz l)) (fun l => .bl (inD (.int ((m + 1 : Nat) : Int)) (natz l))) (j := 14) rfl nd (lt_ rfl) (by omega) (i_s (i_tup (x_of (pv 7) rfl))) (blkOk_by (N := N__law) (sc := defScope s__law) (by decide +kernel)) (fun _ _ _ _ _ => pg_name (i := 14) nd rfl (.inl rfl)) (fun l hl _ _ _ _ _ => x_in (x_of (pv 10) rfl) (o_tup (x_of (pv 14) rfl)) rfl (nat_flat _))))) rfl ?_) ?_
        · rw [List.all_map]
          exact List.all_eq_true.mpr fun l _ => rfl
        · show (List.map _ ws).any _ = _
          rw [List.any_map]
          congr 1
          funext l
          show eqD (.bl (inD (.int ((m + 1 : Nat) : Int)) (natz l))) (.bl true) = _
          rw [nat_in]
          cases decide (m + 1 ∈ l) <;> rfl
      · have hmn : m + 1 ≤ se.n := by omega
        have lll := llM_len sok hz ins coins
        have fll : (((llM se rows ins coins).filter fun l => decide (l.1 = m + 1)).map ld).length ≤ 1000 := by
          obtain ⟨q, _, e, lq⟩ := paper_of (se := se) (rows := rows) (ins := ins) (coins := coins) (num := m + 1) (by omega) hmn (.refl _)
          rw [e, List.length_map]
          have := (paper_fit sok po io lq).2.2.2.1
          omega
        refine s_seq (s_set (i := 11) (d := .tup [.tup (inz (ownTo se rows ins coins (m + 1) rows.length).1), .tup (inz (ownTo se rows ins coins (m + 1) rows.length).2)]) nd rfl (.inl rfl) (lt_ rfl) (x_call c_law_own (hr.mono (by decide)) (a_cons (x_of (pv 3) rfl) (a_cons (x_of (pv 4) rfl) (a_cons (x_of (pv 5) rfl) (a_cons (x_of (pv 6) rfl) (a_cons (x_of (pv 10) rfl) a_nil))))) ⟨rfl, se, rows, ins, coins, m + 1, rfl, sok, hz, io, by omega, hmn, rfl⟩) rfl) ?_
        refine s_cons (s_setNP (i := 12) (P := fun es => es.Perm (((llM se rows ins coins).filter fun l => decide (l.1 = m + 1)).map ld)) nd rfl (.inl rfl) (lt_ rfl) (x_callBN (Ps := fun ds => ds = [.lst (((llM se rows ins coins).filter fun l => decide (l.1 = m + 1)).map ld)]) c_law_turned (hr.mono (by decide)) (pv 1) rfl
          (a_cons (x_frz (x_lcm (l := llM se rows ins coins) (h := ld) (fun l => decide (l.1 = m + 1)) ld (j := 15) rfl nd (lt_ rfl) (by omega) (i_own (pv 8) rfl) (blkOk_by (N := N__law) (sc := defScope s__law) (by decide +kernel)) (fun _ _ _ _ _ => pg_name (i := 15) nd rfl (.inl rfl))
            (fun l hl _ _ _ _ _ => ts_one (t_is (t_cmp op_eq rd_eqI (x_ixt (x_of (pv 15) rfl) x_int rfl) (x_of (pv 10) rfl) (nomark _)) (dec_nat l.1 (m + 1)))) (fun l hl _ _ _ _ _ _ => x_of (pv 15) rfl))) a_nil)
          (fun ds e => ⟨by rw [e]; rfl, ⟨_, e, fll⟩, fun es ⟨l, e1, h⟩ => by
            rw [e] at e1
            injection e1 with e1 _
            injection e1 with e1
            rw [e1]; exact h⟩))) ?_
        rintro _ ⟨es, hes, rfl⟩
        obtain ⟨q, q1, q2, lq⟩ := paper_of (by omega) hmn hes
        subst q2
        have ht : q.text = textS (paperL (m + 1) (ownTo se rows ins coins (m + 1) rows.length).1 (ownTo se rows ins coins (m + 1) rows.length).2 q.ls) := by
          unfold Pp.text
          rw [lq.hin, lq.hco, q1]
        have fit := paper_fit sok po io lq
        rw [lq.hin, lq.hco, q1] at fit
        have hln := paper_line fit.1 fit.2.1 fit.2.2.1 fit.2.2.2.2.1 fit.2.2.2.2.2.1 fit.2.2.2.2.2.2
        refine ss_frz (i := 12) rfl (lt_ rfl) rfl ?_
        refine s_one (s_weak (s_app (d := .str q.text) (pv 9) rfl (lt_ rfl) (by rw [List.length_map]; omega) (x_eq (x_join (ys := (paperL (m + 1) (ownTo se rows ins coins (m + 1) rows.length).1 (ownTo se rows ins coins (m + 1) rows.length).2 q.ls).map fun l => l ++ "\n") (paper_join fit.2.2.2.1 hln) x_str
          (by
            rw [List.map_map]
            exact o_l (o_new (x_lca (l := paperL (m + 1) (ownTo se rows ins coins (m + 1) rows.length).1 (ownTo se rows ins coins (m + 1) rows.length).2 q.ls) (h := D.str) (fun l => D.str (l ++ "\n")) (j := 16) rfl nd (lt_ rfl) (paper_few fit.2.2.2.1)
              (i_s (i_new (x_callN c_law_paper (hr.mono (by decide)) (a_cons (x_of (pv 10) rfl) (a_cons (x_of (pv 11) rfl) (a_cons (x_of (pv 12) rfl) a_nil))) ⟨rfl, m + 1, _, _, q.ls, rfl, fit.1, fit.2.1, fit.2.2.1, fit.2.2.2.1, fit.2.2.2.2.1, fit.2.2.2.2.2.1, fit.2.2.2.2.2.2, rfl⟩)))
              (blkOk_by (N := N__law) (sc := defScope s__law) (by decide +kernel)) (fun _ _ _ _ _ => pg_name (i := 16) nd rfl (.inl rfl)) (fun l hl _ _ _ _ _ => x_cats (line_fit (hln l hl)) (x_of (pv 16) rfl) x_str))))) (congrArg D.str ht.symm)) rfl) ?_)
        rintro _ rfl
        refine ⟨qs ++ [q], .dat (.int ((m + 1 : Nat) : Int)), .dat (.tup [.tup (inz (ownTo se rows ins coins (m + 1) rows.length).1), .tup (inz (ownTo se rows ins coins (m + 1) rows.length).2)]), .dat (.lst (q.ls.map (letD (m + 1)))), v13, v14, v15, v16, ?_, fun q' h' => ?_, ?_, fun q' h' => ?_, fun j j1 j2 hj => ?_, ?_⟩
        · show [_, _, _, _, _, _, _, _, _, Sl.own (qs.map (fun q => D.str q.text) ++ [D.str q.text]), _, _, _, _, _, _, _] = [_, _, _, _, _, _, _, _, _, Sl.own ((qs ++ [q]).map fun q => D.str q.text), _, _, _, _, _, _, _]
          rw [List.map_append]; rfl
        · rcases List.mem_append.mp h' with h' | h'
          · exact hq q' h'
          · rw [List.mem_singleton.mp h']; exact lq
        · rw [List.map_append, List.nodup_append]
          refine ⟨hnd, List.nodup_cons.mpr ⟨fun h => (by cases h), List.nodup_nil⟩, fun a ha b' hb => ?_⟩
          obtain ⟨x, hx, rfl⟩ := List.mem_map.mp ha
          have := hle x hx
          have hb : b' = q.num := List.mem_singleton.mp hb
          omega
        · rcases List.mem_append.mp h' with h' | h'
          · exact Nat.le_succ_of_le (hle q' h')
          · rw [List.mem_singleton.mp h', q1]; exact Nat.le_refl _
        · by_cases e : j = m + 1
          · exact ⟨q, List.mem_append_right _ List.mem_cons_self, by rw [q1, e]⟩
          · obtain ⟨x, hx, hxe⟩ := hall j j1 (by omega) hj
            exact ⟨x, List.mem_append_left _ hx, hxe⟩
        · rw [List.length_append, List.length_singleton]; omega
      · refine s_nil ⟨qs, .dat (.int ((m + 1 : Nat) : Int)), v11, v12, v13, v14, v15, v16, rfl, hq, hnd, fun q h => Nat.le_succ_of_le (hle q h), fun j j1 j2 hj => ?_, Nat.le_succ_of_le hlen⟩
        by_cases e : j = m + 1
        · obtain ⟨l, hl, hjl⟩ := hj
          have := List.any_eq_false.mp hc l hl
          rw [e] at hjl
          exact absurd (decide_eq_true hjl) this
        · exact hall j j1 (by omega) hj
    · rintro _ h; exact h
    · rintro _ ⟨qs, v10, v11, v12, v13, v14, v15, v16, rfl, hq, hnd, hle, hall, hlen⟩
      have wsk : WsOk se rows ws (fun i => ∃ q ∈ qs, q.num = i) := ⟨wep, fun l hl => (wok l hl).1, fun l hl i hi => hall i ((wok l hl).2 i hi).1 ((wok l hl).2 i hi).2 ⟨l, hl, hi⟩⟩
      have wsn : WsOk se rows ws (fun i => i ≤ se.n) := ⟨wep, fun l hl => (wok l hl).1, fun l hl i hi => ((wok l hl).2 i hi).2⟩
      refine ss_frz (i := 9) rfl (lt_ rfl) rfl ?_
      refine s_cons (s_setP (i := 13) (P := fun d => d = .tup ((List.range rows.length).map (viewM se rows ws ins coins))) nd rfl (.inl rfl) (lt_ rfl) (x_callP (Ps := fun ds => ∃ es : List D, ds = [se.d, progD rows, .tup es, watD ws] ∧ es.Perm (qs.map fun q => D.str q.text)) c_seen (hr.mono (by decide))
        (a_consP (P := fun d => d = se.d) (Ps := fun ds => ∃ es : List D, ds = [progD rows, .tup es, watD ws] ∧ es.Perm (qs.map fun q => D.str q.text)) (x_of (pv 3) rfl) (a_consP (P := fun d => d = progD rows) (Ps := fun ds => ∃ es : List D, ds = [.tup es, watD ws] ∧ es.Perm (qs.map fun q => D.str q.text)) (x_of (pv 4) rfl)
          (a_consP (P := fun d => ∃ es : List D, d = .tup es ∧ es.Perm (qs.map fun q => D.str q.text)) (Ps := fun ds => ds = [watD ws]) (x_tupleNP (P := fun es => es.Perm (qs.map fun q => D.str q.text)) rfl B.tuple (x_callBN (Ps := fun ds => ds = [.lst (qs.map fun q => D.str q.text)]) c_law_turned (hr.mono (by decide)) (pv 1) rfl (a_cons (x_of (pv 9) rfl) a_nil) (fun ds e => ⟨by rw [e]; rfl, ⟨_, e, by rw [List.length_map]; omega⟩, fun es ⟨l, e1, h⟩ => by
            rw [e] at e1
            injection e1 with e1 _
            injection e1 with e1
            rw [e1]; exact h⟩)) (fun es h => ⟨es, rfl, h⟩)) (a_cons (x_of (pv 7) rfl) a_nil) (fun d ds ⟨es, e, h⟩ k => ⟨es, by rw [e, k], h⟩)) (fun d ds e ⟨es, k, h⟩ => ⟨es, by rw [e, k], h⟩)) (fun d ds e ⟨es, k, h⟩ => ⟨es, by rw [e, k], h⟩))
        (fun ds ⟨es, e, h⟩ => by
          obtain ⟨qs', p1, p2⟩ := perm_pre (fun q : Pp => D.str q.text) h qs rfl
          have hq' : ∀ q ∈ qs', LawPp se rows ins coins q := fun q hm => hq q (p1.mem_iff.mp hm)
          have wsk' : WsOk se rows ws (fun i => ∃ q ∈ qs', q.num = i) := ⟨wsk.ep, wsk.len, fun l hl i hi => let ⟨q, h1, h2⟩ := wsk.mem l hl i hi; ⟨q, p1.mem_iff.mpr h1, h2⟩⟩
          refine ⟨by rw [e]; rfl, _, ⟨se, rows, qs', ws, by rw [e, p2], sok, hz, fun q hm => pp_ok sok po io (hq' q hm), ((p1.map Pp.num).nodup_iff).mpr hnd, by rw [p1.length_eq]; omega, wsk', rfl⟩, ?_⟩
          congr 1
          exact List.map_congr_left fun k hk => item_view sok po io hq' wsk' (List.mem_range.mp hk)))) ?_
      rintro _ ⟨_, rfl, rfl⟩
      refine s_one (s_ifF ?_ (s_nil ?_))
      · refine t_not (k := true) ?_
        refine t_val (x_callGd c_law_same gd (hr.mono (by decide)) (a_cons (x_of (pv 13) rfl) (a_cons (x_call c_law_view (hr.mono (by decide)) (a_cons (x_of (pv 3) rfl) (a_cons (x_of (pv 4) rfl) (a_cons (x_of (pv 5) rfl) (a_cons (x_of (pv 6) rfl) (a_cons (x_of (pv 7) rfl) a_nil))))) ⟨rfl, se, rows, ins, coins, ws, rfl, sok, po, io, wsn, rfl⟩) a_nil)) ⟨rfl, _, rfl, rep_view sok po io (fun l hl => (wok l hl).1), rfl⟩)
      · exact ⟨_, _, _, _, _, _, _, _, _, _, _, _, _, _, _, rfl⟩
  · rintro _ h; exact h
  · rintro _ ⟨v2, v3, v4, v5, v6, v7, v8, v9, v10, v11, v12, v13, v14, v15, v16, rfl⟩
    exact s_one (s_retR (P := fun d => d = .bl true) x_bl (fun v H' ⟨d, G', t, e, z2⟩ => by rw [e] at z2; exact z2.bl_inv))
end
end Un
set_option maxHeartbeats 4000000
/-! the law's call, from a promise that stands where no repr is under way -/
namespace Un
open PySem L2 PyProof.Rows PySem.Spec
/-- what is tracked as the law begins: the script or nothing -/
structure AtLaw (P : Program) (w : World) (K : PySem.W.Frag) (a : Addr) (s : Shared) (H : Hp) : Prop where
  frz : Only H
  one : ∀ b, b ≠ a → H b = none
  out : ∀ u, H a = some u → K.lookup a = none
  hok : HOk P w H s.heap
/-- how the law's call is to end -/
def LawEnd (s : Shared) (r : Result) (s' : Shared) : Prop := r = .ok (.ret (.bool true)) ∧ OldK s.heap s'.heap ∧ s'.os = s.os ∧ AllBare s'.gens
section
variable {P : Program} {w : World} {K : PySem.W.Frag} {mg mb : Str → Option Value} {k : Nat} {fa a : Addr} {fd : FuncData} {x : Str} {sp : Sp} {s : Shared} {H : Hp} {oa : Obj}
theorem AtLaw.hid (L : AtLaw P w K a s H) {b : Addr} {o : Obj} (e : s.heap.get? b = some o) (n : b ≠ a) : (hidT s.heap H).get? b = some o := hidT_get e (L.one b n)
theorem AtLaw.ns (L : AtLaw P w K a s H) (ea : s.heap.get? a = some oa) (nd : ∀ es ep, oa.data ≠ .dict es ep) {b : Addr} {m : Str → Option Value} (z : s.heap.Ns b m) : (hidT s.heap H).Ns b m := by
  obtain ⟨o, es, ep, e, d, r⟩ := z
  refine ⟨o, es, ep, L.hid e fun h => ?_, d, r⟩
  rw [h, ea] at e
  exact nd es ep ((Option.some.inj e) ▸ d)
theorem AtLaw.frag (L : AtLaw P w K a s H) (inK : K.In s.heap) : K.In (hidT s.heap H) := fun b o e => by
  refine hidT_get (inK b o e) ?_
  by_cases h : b = a
  · subst h
    cases q : H b with
    | none => rfl
    | some u => rw [L.out u q] at e; cases e
  · exact L.one b h
theorem AtLaw.old (L : AtLaw P w K a s H) {H' : Hp} {s' : Shared} (un : L2.Un (frs []) [] H H' s.heap s'.heap) (hok' : HOk P w H' s'.heap) : OldK s.heap s'.heap := OldK.of_keep fun b o e => by
  rcases L.frz b with z | ⟨u, xs, z⟩
  · exact un.keep b o e z (fun m => nomatch m) (fun m => nomatch m)
  · have z1 := (L.hok b _ z).1
    rw [e] at z1
    rw [Option.some.inj z1]
    exact (hok' b _ (un.frzs b u _ z)).1
theorem AtLaw.run (L : AtLaw P w K a s H) (inK : K.In s.heap) (gl : s.heap.Ns mainGlobals mg) (bi : s.heap.Ns builtinsNs mb) (bb : ∀ y : Str, y ≠ "__name__" → mb y = bootBuiltins y) (lim : s.heap.NoLimit) (ge : s.gens = #[])
    (ea : s.heap.get? a = some oa) (nd : ∀ es ep, oa.data ≠ .dict es ep) (room : Room k callerA) (F : ∀ base : Heap, K.In base → base.Ns mainGlobals mg → FnG P w K mg base k fa fd [x] sp)
    (bd : BindsTo s fd ⟨[.ref a], []⟩ [(x, .ref a)]) (hs : sp [.ref a] H (fun v _ => v = .bl true) E0) : codeAny (model P w) callerA (.call (.ref fa) ⟨[.ref a], []⟩) (LawEnd s) s := by
  have k1 := L.frag inK
  have k2 := L.ns ea nd gl
  obtain ⟨mc, l1, l2⟩ := lim
  have env : Env0 P w K mg (hidT s.heap H) callerA [] s H :=
    { frames := rfl, mod := ⟨k1, k2, ⟨mb, L.ns ea nd bi, bb⟩, ⟨mc, L.ns ea nd l1, l2⟩⟩, bs := fun _ _ e => of_hidT e, bsz := Nat.le_of_eq (hidT_size s.heap H), funs := trivial, frf := fun _ m => (nomatch m), hok := L.hok, bare := .of_eq ge }
  refine codeAny_mono ((F _ k1 k2).run callerA [] s H _ [.ref a] [.ref a] _ _ rfl room env bd (.cons rfl .nil) hs) fun r s' h => ?_
  match r, h with
  | .error _, h => exact h.elim
  | .ok .next, h => exact h.elim
  | .ok .brk, h => exact h.elim
  | .ok .cont, h => exact h.elim
  | .ok (.ret u), ⟨v, H', os, bare, un, hok', rv, q⟩ =>
    cases (show v = .bl true from q)
    cases (show u = Value.bool true from rv)
    exact ⟨rfl, L.old un hok', os, bare⟩
end
theorem walk_ofG {l : PySem.W.OpenLaw} {n k : Nat} {q : Program} {loose : List Str} {XP : (Str → Option Value) → Heap → Prop} {YP : World → Heap → Prop} {d : DefRec} {x : Str} (hn : l.most = some n) (hn2 : n ≤ sizeLine) (hdf : d.params.defaults = []) (room : Room k callerA)
    (F : ∀ (w : World) (mg : Str → Option Value) (fa : Addr) (h : Heap), YP w h → h.Ns mainGlobals mg → mg d.name = some (.ref fa) → ∃ (K : PySem.W.Frag) (fd : FuncData) (sp : Sp), K.In h ∧ (∀ (s : Shared) (u : Value), BindsTo s fd ⟨[u], []⟩ [(x, u)]) ∧
      (∀ (H : Hp) (a : Addr) (ns : List Int), SqL K H a (ns.map V.int) → sp [.ref a] H (fun v _ => v = .bl true) E0) ∧ ∀ base : Heap, K.In base → base.Ns mainGlobals mg → FnG l.prog w K mg base k fa fd [x] sp) :
    PySem.W.WalkO q loose XP YP l.row.toRowW d [] (fun f vs => PySem.call f vs) := by
  refine Att.attach_call hn hdf fun w _ s mg mb fa _ _ _ _ a vs ns G Y _ _ _ hmg ha hi hl hg => ?_
  obtain ⟨K, fd, sp, inK, hb, hs, hF⟩ := F w mg fa _ Y G.T.g hmg
  have rv := vals_ints hi
  have nd : ∀ es ep, ({ cls := .type "list", data := .seq vs.toArray } : Obj).data ≠ .dict es ep := fun es ep h => by cases h
  have fin : ∀ H : Hp, AtLaw l.prog w K a s H → SqL K H a (ns.map V.int) → codeAny (model l.prog w) callerA (.call (.ref fa) ⟨[.ref a], []⟩) (LawEnd s) s := fun H L z => L.run inK G.T.g G.T.b G.T.builtins G.T.nolimit hg ha nd room hF (hb s (.ref a)) (hs H a ns z)
  have few : ns.length ≤ sizeLine := Nat.le_trans hl hn2
  cases hk : K.lookup a with
  | some o =>
    have e := inK a o hk
    rw [ha] at e
    cases e
    refine fin (fun _ => none) ⟨fun _ => .inl rfl, fun _ _ => rfl, fun u z => (nomatch z), fun b u z => (nomatch z)⟩ (.inr ⟨_, vs.toArray, _, hk, rfl, rfl, rfl, ?_, ?_⟩)
    · rw [List.size_toArray, hi.length]; exact few
    · simpa using rv
  | none =>
    let ob : HO := .frz { cls := .type "list", data := .seq vs.toArray } (.lst (ns.map V.int))
    have e1 : ∀ b u, (if b = a then some ob else none) = some u → b = a ∧ u = ob := fun b u z => by
      by_cases h : b = a
      · rw [if_pos h] at z; exact ⟨h, (Option.some.inj z).symm⟩
      · rw [if_neg h] at z; cases z
    refine fin (fun b => if b = a then some ob else none) ⟨fun b => ?_, fun b h => if_neg h, fun _ _ => hk, fun b u z => ?_⟩ (.inl (.inr ⟨_, if_pos rfl⟩))
    · by_cases h : b = a
      · exact .inr ⟨_, _, if_pos h⟩
      · exact .inl (if_neg h)
    · obtain ⟨rfl, rfl⟩ := e1 b u z
      exact ⟨ha, by rw [List.length_map]; exact few, vs, _, rv, ha⟩
end Un
set_option maxHeartbeats 4000000
/-! the head's facts: all promises joined -/
namespace Un
open PySem L2 PyProof.Rows PySem.Spec
theorem facts {P : Program} {w : World} {K : PySem.W.Frag} {h : Heap} {mg : Str → Option Value} (X : K.In h) (G : h.Ns mainGlobals mg) (y : Say faL fnL prL K) :
    ∃ fd : FuncData, Fun K "law" "law" s__law (He.ga K "law") fd ∧ ∀ base : Heap, FnG P w K mg base 13 (He.ga K "law") fd ["_law_script"] (spLaw K (He.ga K "Party")) := by
  obtain ⟨dL, FL⟩ := y.fn 75 (d := ⟨fun K => He.ga K "law", "law", "law", s__law⟩) rfl
  refine ⟨dL, FL, fun base => ?_⟩
  have B : Bt mg := ⟨He.free_ok X G (y.fa 0 rfl), He.free_ok X G (y.fa 1 rfl), He.free_ok X G (y.fa 2 rfl), He.free_ok X G (y.fa 3 rfl), He.free_ok X G (y.fa 4 rfl), He.free_ok X G (y.fa 5 rfl), He.free_ok X G (y.fa 6 rfl), He.free_ok X G (y.fa 7 rfl), He.free_ok X G (y.fa 8 rfl), He.free_ok X G (y.fa 9 rfl), He.free_ok X G (y.fa 10 rfl), He.free_ok X G (y.fa 11 rfl), He.free_ok X G (y.fa 12 rfl), He.free_ok X G (y.fa 13 rfl)⟩
  have cc : Ca K (He.ga K "Party") := ⟨He.cls_ok (y.fa 14 rfl), He.noat_ok (y.fa 17 rfl), He.noat_ok (y.fa 18 rfl), He.noat_ok (y.fa 19 rfl), He.noat_ok (y.fa 20 rfl), He.noat_ok (y.fa 21 rfl), He.noat_ok (y.fa 22 rfl)⟩
  obtain ⟨d0, F0⟩ := y.fn 0 (d := ⟨fun K => He.ga K "value_at", "value_at", "value_at", s_value_at⟩) rfl
  have c_value_at : Glo P w K mg base "value_at" 1 ["p", "poly", "x"] (spD K (He.ga K "Party") 3 S_value_at) := ⟨⟨_, _, ok_value_at B F0, He.glo_ok X G (y.fa 24 rfl), F0.kp, F0.binds fun _ _ _ _ _ _ us hl => match us, hl with | [_, _, _], _ => rfl⟩⟩
  obtain ⟨d1, F1⟩ := y.fn 1 (d := ⟨fun K => He.ga K "power", "power", "power", s_power⟩) rfl
  have c_power : Glo P w K mg base "power" 1 ["p", "a", "k"] (spD K (He.ga K "Party") 3 S_power) := ⟨⟨_, _, ok_power B F1, He.glo_ok X G (y.fa 25 rfl), F1.kp, F1.binds fun _ _ _ _ _ _ us hl => match us, hl with | [_, _, _], _ => rfl⟩⟩
  obtain ⟨d2, F2⟩ := y.fn 2 (d := ⟨fun K => He.ga K "inverse", "inverse", "inverse", s_inverse⟩) rfl
  have c_inverse : Glo P w K mg base "inverse" 2 ["p", "a"] (spD K (He.ga K "Party") 2 S_inverse) := ⟨⟨_, _, ok_inverse B c_power F2, He.glo_ok X G (y.fa 26 rfl), F2.kp, F2.binds fun _ _ _ _ _ _ us hl => match us, hl with | [_, _], _ => rfl⟩⟩
  obtain ⟨d3, F3⟩ := y.fn 3 (d := ⟨fun K => He.ga K "added", "added", "added", s_added⟩) rfl
  have c_added : Glo P w K mg base "added" 1 ["p", "one", "other"] (spD K (He.ga K "Party") 3 S_added) := ⟨⟨_, _, ok_added B F3, He.glo_ok X G (y.fa 27 rfl), F3.kp, F3.binds fun _ _ _ _ _ _ us hl => match us, hl with | [_, _, _], _ => rfl⟩⟩
  obtain ⟨d4, F4⟩ := y.fn 4 (d := ⟨fun K => He.ga K "scaled", "scaled", "scaled", s_scaled⟩) rfl
  have c_scaled : Glo P w K mg base "scaled" 1 ["p", "c", "poly"] (spD K (He.ga K "Party") 3 S_scaled) := ⟨⟨_, _, ok_scaled B F4, He.glo_ok X G (y.fa 28 rfl), F4.kp, F4.binds fun _ _ _ _ _ _ us hl => match us, hl with | [_, _, _], _ => rfl⟩⟩
  obtain ⟨d5, F5⟩ := y.fn 5 (d := ⟨fun K => He.ga K "with_root", "with_root", "with_root", s_with_root⟩) rfl
  have c_with_root : Glo P w K mg base "with_root" 2 ["p", "poly", "point"] (spD K (He.ga K "Party") 3 S_with_root) := ⟨⟨_, _, ok_with_root B c_added c_scaled F5, He.glo_ok X G (y.fa 29 rfl), F5.kp, F5.binds fun _ _ _ _ _ _ us hl => match us, hl with | [_, _, _], _ => rfl⟩⟩
  obtain ⟨d6, F6⟩ := y.fn 6 (d := ⟨fun K => He.ga K "roots_at", "roots_at", "roots_at", s_roots_at⟩) rfl
  have c_roots_at : Glo P w K mg base "roots_at" 3 ["p", "points"] (spD K (He.ga K "Party") 2 S_roots_at) := ⟨⟨_, _, ok_roots_at B c_with_root F6, He.glo_ok X G (y.fa 30 rfl), F6.kp, F6.binds fun _ _ _ _ _ _ us hl => match us, hl with | [_, _], _ => rfl⟩⟩
  obtain ⟨d7, F7⟩ := y.fn 7 (d := ⟨fun K => He.ga K "bases", "bases", "bases", s_bases⟩) rfl
  have c_bases : Glo P w K mg base "bases" 4 ["p", "points"] (spN K (He.ga K "Party") 2 S_bases) := ⟨⟨_, _, ok_bases B c_roots_at c_scaled c_inverse c_value_at F7, He.glo_ok X G (y.fa 31 rfl), F7.kp, F7.binds fun _ _ _ _ _ _ us hl => match us, hl with | [_, _], _ => rfl⟩⟩
  obtain ⟨d8, F8⟩ := y.fn 8 (d := ⟨fun K => He.ga K "weights", "weights", "weights", s_weights⟩) rfl
  have c_weights : Glo P w K mg base "weights" 5 ["p", "points", "x"] (spD K (He.ga K "Party") 3 S_weights) := ⟨⟨_, _, ok_weights B c_bases c_value_at F8, He.glo_ok X G (y.fa 32 rfl), F8.kp, F8.binds fun _ _ _ _ _ _ us hl => match us, hl with | [_, _, _], _ => rfl⟩⟩
  obtain ⟨d9, F9⟩ := y.fn 9 (d := ⟨fun K => He.ga K "parties", "parties", "parties", s_parties⟩) rfl
  have c_parties : Glo P w K mg base "parties" 1 ["setting"] (spD K (He.ga K "Party") 1 S_parties) := ⟨⟨_, _, ok_parties B F9, He.glo_ok X G (y.fa 33 rfl), F9.kp, F9.binds fun _ _ _ _ _ _ us hl => match us, hl with | [_], _ => rfl⟩⟩
  obtain ⟨d10, F10⟩ := y.fn 10 (d := ⟨fun K => He.ga K "shares_of", "shares_of", "shares_of", s_shares_of⟩) rfl
  have c_shares_of : Glo P w K mg base "shares_of" 2 ["setting", "poly"] (spD K (He.ga K "Party") 2 S_shares_of) := ⟨⟨_, _, ok_shares_of B c_parties c_value_at F10, He.glo_ok X G (y.fa 34 rfl), F10.kp, F10.binds fun _ _ _ _ _ _ us hl => match us, hl with | [_, _], _ => rfl⟩⟩
  obtain ⟨d11, F11⟩ := y.fn 11 (d := ⟨fun K => He.ga K "shares_sharing", "shares", "shares", s_shares⟩) rfl
  have c_shares_sharing : Glo P w K mg base "shares_sharing" 3 ["setting", "s", "coins"] (spD K (He.ga K "Party") 3 S_shares) := ⟨⟨_, _, ok_shares B c_shares_of F11, He.glo_ok X G (y.fa 35 rfl), F11.kp, F11.binds fun _ _ _ _ _ _ us hl => match us, hl with | [_, _, _], _ => rfl⟩⟩
  obtain ⟨d12, F12⟩ := y.fn 12 (d := ⟨fun K => He.ga K "named", "named", "named", s_named⟩) rfl
  have c_named : Glo P w K mg base "named" 1 ["row"] (spD K (He.ga K "Party") 1 S_named) := ⟨⟨_, _, ok_named F12, He.glo_ok X G (y.fa 36 rfl), F12.kp, F12.binds fun _ _ _ _ _ _ us hl => match us, hl with | [_], _ => rfl⟩⟩
  obtain ⟨d13, F13⟩ := y.fn 13 (d := ⟨fun K => He.ga K "epoch_of", "epoch_of", "epoch_of", s_epoch_of⟩) rfl
  have c_epoch_of : Glo P w K mg base "epoch_of" 1 ["program", "k"] (spD K (He.ga K "Party") 2 S_epoch_of) := ⟨⟨_, _, ok_epoch_of B F13, He.glo_ok X G (y.fa 37 rfl), F13.kp, F13.binds fun _ _ _ _ _ _ us hl => match us, hl with | [_, _], _ => rfl⟩⟩
  obtain ⟨d14, F14⟩ := y.fn 14 (d := ⟨fun K => He.ga K "sends", "sends", "sends", s_sends⟩) rfl
  have c_sends : Glo P w K mg base "sends" 1 ["setting", "program", "k", "i", "j"] (spD K (He.ga K "Party") 5 S_sends) := ⟨⟨_, _, ok_sends F14, He.glo_ok X G (y.fa 38 rfl), F14.kp, F14.binds fun _ _ _ _ _ _ us hl => match us, hl with | [_, _, _, _, _], _ => rfl⟩⟩
  obtain ⟨d15, F15⟩ := y.fn 15 (d := ⟨fun K => He.ga K "by_rows", "by_rows", "by_rows", s_by_rows⟩) rfl
  have c_by_rows : Glo P w K mg base "by_rows" 1 ["setting", "program", "number", "inputs", "coins"] (spD K (He.ga K "Party") 5 S_by_rows) := ⟨⟨_, _, ok_by_rows B F15, He.glo_ok X G (y.fa 39 rfl), F15.kp, F15.binds fun _ _ _ _ _ _ us hl => match us, hl with | [_, _, _, _, _], _ => rfl⟩⟩
  obtain ⟨d16, F16⟩ := y.fn 16 (d := ⟨fun K => pgA K (He.ga K "Party") "number", "number", "Party.number", s_Party_number⟩) rfl
  have c_number : Prp P w K mg base (He.ga K "Party") "number" 1 (spD K (He.ga K "Party") 1 S_number) := ⟨⟨_, _, _, ok_number cc F16, prop_ok (y.pr 0 rfl), F16.binds fun _ _ _ _ _ _ us hl => match us, hl with | [_], _ => rfl⟩⟩
  obtain ⟨d17, F17⟩ := y.fn 17 (d := ⟨fun K => pgA K (He.ga K "Party") "took", "took", "Party.took", s_Party_took⟩) rfl
  have c_took : Prp P w K mg base (He.ga K "Party") "took" 1 (spD K (He.ga K "Party") 1 S_took) := ⟨⟨_, _, _, ok_took cc F17, prop_ok (y.pr 1 rfl), F17.binds fun _ _ _ _ _ _ us hl => match us, hl with | [_], _ => rfl⟩⟩
  obtain ⟨d18, F18⟩ := y.fn 18 (d := ⟨fun K => He.ma K (He.ga K "Party") "_all_came", "_all_came", "Party._all_came", s_Party__all_came⟩) rfl
  have c_all_came : Mtd P w K mg base (He.ga K "Party") "_all_came" 1 ["self", "k"] (spD K (He.ga K "Party") 2 S_all_came) := ⟨⟨_, _, ok_all_came B cc F18, He.meth_ok (y.fa 40 rfl), F18.binds fun _ _ _ _ _ _ us hl => match us, hl with | [_, _], _ => rfl⟩⟩
  obtain ⟨d19, F19⟩ := y.fn 19 (d := ⟨fun K => He.ma K (He.ga K "Party") "input_at", "input_at", "Party.input_at", s_Party_input_at⟩) rfl
  have c_input_at : Mtd P w K mg base (He.ga K "Party") "input_at" 1 ["self", "k"] (spD K (He.ga K "Party") 2 S_input_at) := ⟨⟨_, _, ok_input_at cc F19, He.meth_ok (y.fa 41 rfl), F19.binds fun _ _ _ _ _ _ us hl => match us, hl with | [_, _], _ => rfl⟩⟩
  obtain ⟨d20, F20⟩ := y.fn 20 (d := ⟨fun K => He.ma K (He.ga K "Party") "coins_at", "coins_at", "Party.coins_at", s_Party_coins_at⟩) rfl
  have c_coins_at : Mtd P w K mg base (He.ga K "Party") "coins_at" 1 ["self", "k"] (spD K (He.ga K "Party") 2 S_coins_at) := ⟨⟨_, _, ok_coins_at cc F20, He.meth_ok (y.fa 42 rfl), F20.binds fun _ _ _ _ _ _ us hl => match us, hl with | [_, _], _ => rfl⟩⟩
  obtain ⟨d21, F21⟩ := y.fn 21 (d := ⟨fun K => He.ma K (He.ga K "Party") "came_from", "came_from", "Party.came_from", s_Party_came_from⟩) rfl
  have c_came_from : Mtd P w K mg base (He.ga K "Party") "came_from" 1 ["self", "k", "party"] (spD K (He.ga K "Party") 3 S_came_from) := ⟨⟨_, _, ok_came_from cc F21, He.meth_ok (y.fa 43 rfl), F21.binds fun _ _ _ _ _ _ us hl => match us, hl with | [_, _, _], _ => rfl⟩⟩
  obtain ⟨d22, F22⟩ := y.fn 22 (d := ⟨fun K => He.ma K (He.ga K "Party") "_told", "_told", "Party._told", s_Party__told⟩) rfl
  have c_told : Mtd P w K mg base (He.ga K "Party") "_told" 2 ["self", "k", "mine"] (spD K (He.ga K "Party") 3 S_told) := ⟨⟨_, _, ok_told B cc c_parties F22, He.meth_ok (y.fa 44 rfl), F22.binds fun _ _ _ _ _ _ us hl => match us, hl with | [_, _, _], _ => rfl⟩⟩
  obtain ⟨d23, F23⟩ := y.fn 23 (d := ⟨fun K => He.ma K (He.ga K "Party") "_needed", "_needed", "Party._needed", s_Party__needed⟩) rfl
  have c_needed : Mtd P w K mg base (He.ga K "Party") "_needed" 2 ["self", "k", "found"] (spD K (He.ga K "Party") 3 S_needed) := ⟨⟨_, _, ok_needed B cc c_named F23, He.meth_ok (y.fa 45 rfl), F23.binds fun _ _ _ _ _ _ us hl => match us, hl with | [_, _, _], _ => rfl⟩⟩
  obtain ⟨d24, F24⟩ := y.fn 24 (d := ⟨fun K => He.ma K (He.ga K "Party") "_poly", "_poly", "Party._poly", s_Party__poly⟩) rfl
  have c_poly : Mtd P w K mg base (He.ga K "Party") "_poly" 1 ["self", "k", "some"] (spD K (He.ga K "Party") 3 S_poly) := ⟨⟨_, _, ok_poly B cc F24, He.meth_ok (y.fa 46 rfl), F24.binds fun _ _ _ _ _ _ us hl => match us, hl with | [_, _, _], _ => rfl⟩⟩
  obtain ⟨d25, F25⟩ := y.fn 25 (d := ⟨fun K => He.ma K (He.ga K "Party") "_reckoned", "_reckoned", "Party._reckoned", s_Party__reckoned⟩) rfl
  have c_reckoned : Mtd P w K mg base (He.ga K "Party") "_reckoned" 1 ["self", "row", "some"] (spD K (He.ga K "Party") 3 S_reckoned) := ⟨⟨_, _, ok_reckoned B cc F25, He.meth_ok (y.fa 47 rfl), F25.binds fun _ _ _ _ _ _ us hl => match us, hl with | [_, _, _], _ => rfl⟩⟩
  obtain ⟨d26, F26⟩ := y.fn 26 (d := ⟨fun K => He.ma K (He.ga K "Party") "_joined", "_joined", "Party._joined", s_Party__joined⟩) rfl
  have c_joined : Mtd P w K mg base (He.ga K "Party") "_joined" 3 ["self", "k", "some"] (spD K (He.ga K "Party") 3 S_joined) := ⟨⟨_, _, ok_joined B cc c_all_came c_told c_poly c_value_at F26, He.meth_ok (y.fa 48 rfl), F26.binds fun _ _ _ _ _ _ us hl => match us, hl with | [_, _, _], _ => rfl⟩⟩
  obtain ⟨d27, F27⟩ := y.fn 27 (d := ⟨fun K => He.ma K (He.ga K "Party") "_share", "_share", "Party._share", s_Party__share⟩) rfl
  have c_share : Mtd P w K mg base (He.ga K "Party") "_share" 4 ["self", "k", "found"] (spD K (He.ga K "Party") 3 S_share) := ⟨⟨_, _, ok_share B cc c_needed c_joined c_reckoned c_shares_sharing F27, He.meth_ok (y.fa 49 rfl), F27.binds fun _ _ _ _ _ _ us hl => match us, hl with | [_, _, _], _ => rfl⟩⟩
  obtain ⟨d28, F28⟩ := y.fn 28 (d := ⟨fun K => pgA K (He.ga K "Party") "shares", "shares", "Party.shares", s_Party_shares⟩) rfl
  have c_shares : Prp P w K mg base (He.ga K "Party") "shares" 5 (spD K (He.ga K "Party") 1 S_sharesP) := ⟨⟨_, _, _, ok_sharesP B cc c_share F28, prop_ok (y.pr 2 rfl), F28.binds fun _ _ _ _ _ _ us hl => match us, hl with | [_], _ => rfl⟩⟩
  obtain ⟨d29, F29⟩ := y.fn 29 (d := ⟨fun K => He.ma K (He.ga K "Party") "_letters", "_letters", "Party._letters", s_Party__letters⟩) rfl
  have c_letters : Mtd P w K mg base (He.ga K "Party") "_letters" 4 ["self", "k", "found"] (spN K (He.ga K "Party") 3 S_letters) := ⟨⟨_, _, ok_letters B cc c_parties c_sends c_shares_sharing c_needed c_poly c_value_at F29, He.meth_ok (y.fa 50 rfl), F29.binds fun _ _ _ _ _ _ us hl => match us, hl with | [_, _, _], _ => rfl⟩⟩
  obtain ⟨d30, F30⟩ := y.fn 30 (d := ⟨fun K => pgA K (He.ga K "Party") "made", "made", "Party.made", s_Party_made⟩) rfl
  have c_made : Prp P w K mg base (He.ga K "Party") "made" 7 (spD K (He.ga K "Party") 1 S_made) := ⟨⟨_, _, _, ok_made B cc c_shares c_letters F30, prop_ok (y.pr 3 rfl), F30.binds fun _ _ _ _ _ _ us hl => match us, hl with | [_], _ => rfl⟩⟩
  obtain ⟨d31, F31⟩ := y.fn 31 (d := ⟨fun K => He.ga K "is_integer", "is_integer", "is_integer", s_is_integer⟩) rfl
  have c_is_integer : Glo P w K mg base "is_integer" 1 ["thing"] (spD K (He.ga K "Party") 1 S_is_integer) := ⟨⟨_, _, ok_is_integer B F31, He.glo_ok X G (y.fa 51 rfl), F31.kp, F31.binds fun _ _ _ _ _ _ us hl => match us, hl with | [_], _ => rfl⟩⟩
  obtain ⟨d32, F32⟩ := y.fn 32 (d := ⟨fun K => He.ma K (He.ga K "Party") "_is_letter", "_is_letter", "Party._is_letter", s_Party__is_letter⟩) rfl
  have c_is_letter : Mtd P w K mg base (He.ga K "Party") "_is_letter" 2 ["self", "letter"] (spD K (He.ga K "Party") 2 S_is_letter) := ⟨⟨_, _, ok_is_letter B cc c_is_integer c_sends F32, He.meth_ok (y.fa 52 rfl), F32.binds fun _ _ _ _ _ _ us hl => match us, hl with | [_, _], _ => rfl⟩⟩
  obtain ⟨d33, F33⟩ := y.fn 33 (d := ⟨fun K => He.ma K (He.ga K "Party") "take", "take", "Party.take", s_Party_take⟩) rfl
  have c_take : Mtd P w K mg base (He.ga K "Party") "take" 9 ["self", "letter"] (spTake K (He.ga K "Party")) := ⟨⟨_, _, ok_take B cc c_is_letter c_made F33, He.meth_ok (y.fa 53 rfl), F33.binds fun _ _ _ _ _ _ us hl => match us, hl with | [_, _], _ => rfl⟩⟩
  obtain ⟨d34, F34⟩ := y.fn 34 (d := ⟨fun K => He.ma K (He.ga K "Party") "__init__", "__init__", "Party.__init__", s_Party___init__⟩) rfl
  have MM : Prt P w K mg base (He.ga K "Party") := ⟨⟨_, _, He.mkr_ok (y.fa 16 rfl), ok_init B cc c_by_rows c_parties c_weights F34, He.glo_ok X G (y.fa 15 rfl), F34.binds fun _ _ _ _ _ _ us hl => match us, hl with | [_, _, _, _, _, _], _ => rfl⟩⟩
  obtain ⟨d35, F35⟩ := y.fn 35 (d := ⟨fun K => He.ga K "lines_of", "lines_of", "lines_of", s_lines_of⟩) rfl
  have c_lines_of : Glo P w K mg base "lines_of" 1 ["text"] (spN K (He.ga K "Party") 1 S_lines_of) := ⟨⟨_, _, ok_lines_of F35, He.glo_ok X G (y.fa 54 rfl), F35.kp, F35.binds fun _ _ _ _ _ _ us hl => match us, hl with | [_], _ => rfl⟩⟩
  obtain ⟨d36, F36⟩ := y.fn 36 (d := ⟨fun K => He.ga K "number_in", "number_in", "number_in", s_number_in⟩) rfl
  have c_number_in : Glo P w K mg base "number_in" 1 ["word"] (spD K (He.ga K "Party") 1 S_number_in) := ⟨⟨_, _, ok_number_in B F36, He.glo_ok X G (y.fa 55 rfl), F36.kp, F36.binds fun _ _ _ _ _ _ us hl => match us, hl with | [_], _ => rfl⟩⟩
  obtain ⟨d37, F37⟩ := y.fn 37 (d := ⟨fun K => He.ga K "numbers_in", "numbers_in", "numbers_in", s_numbers_in⟩) rfl
  have c_numbers_in : Glo P w K mg base "numbers_in" 2 ["lines", "at", "word"] (spD K (He.ga K "Party") 3 S_numbers_in) := ⟨⟨_, _, ok_numbers_in B c_number_in F37, He.glo_ok X G (y.fa 56 rfl), F37.kp, F37.binds fun _ _ _ _ _ _ us hl => match us, hl with | [_, _, _], _ => rfl⟩⟩
  obtain ⟨d38, F38⟩ := y.fn 38 (d := ⟨fun K => He.ga K "checked", "checked", "checked", s_checked⟩) rfl
  have c_checked : Glo P w K mg base "checked" 1 ["setting", "numbers", "many", "at"] (spD K (He.ga K "Party") 4 S_checked) := ⟨⟨_, _, ok_checked B F38, He.glo_ok X G (y.fa 57 rfl), F38.kp, F38.binds fun _ _ _ _ _ _ us hl => match us, hl with | [_, _, _, _], _ => rfl⟩⟩
  obtain ⟨d39, F39⟩ := y.fn 39 (d := ⟨fun K => He.ga K "head_of", "head_of", "head_of", s_head_of⟩) rfl
  have c_head_of : Glo P w K mg base "head_of" 8 ["setting", "program", "lines"] (spHead K (He.ga K "Party")) := ⟨⟨_, _, ok_head_of B MM c_numbers_in c_parties c_checked F39, He.glo_ok X G (y.fa 58 rfl), F39.kp, F39.binds fun _ _ _ _ _ _ us hl => match us, hl with | [_, _, _], _ => rfl⟩⟩
  obtain ⟨d40, F40⟩ := y.fn 40 (d := ⟨fun K => He.ga K "read_paper", "read_paper", "read_paper", s_read_paper⟩) rfl
  have c_read_paper : Glo P w K mg base "read_paper" 10 ["setting", "program", "text"] (spD K (He.ga K "Party") 3 S_read_paper) := ⟨⟨_, _, ok_read_paper B cc c_lines_of c_head_of c_numbers_in c_number c_took c_take F40, He.glo_ok X G (y.fa 59 rfl), F40.kp, F40.binds fun _ _ _ _ _ _ us hl => match us, hl with | [_, _, _], _ => rfl⟩⟩
  obtain ⟨d41, F41⟩ := y.fn 41 (d := ⟨fun K => He.ga K "on_both_sides", "on_both_sides", "on_both_sides", s_on_both_sides⟩) rfl
  have c_on_both_sides : Glo P w K mg base "on_both_sides" 2 ["program", "watchers", "k"] (spD K (He.ga K "Party") 3 S_on_both) := ⟨⟨_, _, ok_on_both_sides B c_epoch_of F41, He.glo_ok X G (y.fa 60 rfl), F41.kp, F41.binds fun _ _ _ _ _ _ us hl => match us, hl with | [_, _, _], _ => rfl⟩⟩
  obtain ⟨d42, F42⟩ := y.fn 42 (d := ⟨fun K => He.ga K "shares_of_some", "shares_of_some", "shares_of_some", s_shares_of_some⟩) rfl
  have c_shares_of_some : Glo P w K mg base "shares_of_some" 7 ["crew", "k", "some"] (spD K (He.ga K "Party") 3 S_shares_of_some) := ⟨⟨_, _, ok_shares_of_some B cc c_shares F42, He.glo_ok X G (y.fa 61 rfl), F42.kp, F42.binds fun _ _ _ _ _ _ us hl => match us, hl with | [_, _, _], _ => rfl⟩⟩
  obtain ⟨d43, F43⟩ := y.fn 43 (d := ⟨fun K => He.ga K "seen_by", "seen_by", "seen_by", s_seen_by⟩) rfl
  have c_seen_by : Glo P w K mg base "seen_by" 2 ["setting", "crew", "k", "some"] (spD K (He.ga K "Party") 4 S_seen_by) := ⟨⟨_, _, ok_seen_by B cc c_parties c_coins_at c_came_from F43, He.glo_ok X G (y.fa 62 rfl), F43.kp, F43.binds fun _ _ _ _ _ _ us hl => match us, hl with | [_, _, _, _], _ => rfl⟩⟩
  obtain ⟨d44, F44⟩ := y.fn 44 (d := ⟨fun K => He.ga K "told_to", "told_to", "told_to", s_told_to⟩) rfl
  have c_told_to : Glo P w K mg base "told_to" 7 ["setting", "row", "k", "party"] (spD K (He.ga K "Party") 4 S_told_to) := ⟨⟨_, _, ok_told_to B cc c_parties c_number c_shares c_came_from F44, He.glo_ok X G (y.fa 63 rfl), F44.kp, F44.binds fun _ _ _ _ _ _ us hl => match us, hl with | [_, _, _, _], _ => rfl⟩⟩
  obtain ⟨d45, F45⟩ := y.fn 45 (d := ⟨fun K => He.ga K "item_of", "item_of", "item_of", s_item_of⟩) rfl
  have c_item_of : Glo P w K mg base "item_of" 8 ["setting", "program", "k", "crew", "watchers"] (spD K (He.ga K "Party") 5 S_item_of) := ⟨⟨_, _, ok_item_of B cc c_epoch_of c_input_at c_coins_at c_shares_of_some c_seen_by c_on_both_sides c_told_to F45, He.glo_ok X G (y.fa 64 rfl), F45.kp, F45.binds fun _ _ _ _ _ _ us hl => match us, hl with | [_, _, _, _, _], _ => rfl⟩⟩
  obtain ⟨d46, F46⟩ := y.fn 46 (d := ⟨fun K => He.ga K "seen", "seen", "seen", s_seen⟩) rfl
  have c_seen : Glo P w K mg base "seen" 11 ["setting", "program", "papers", "watchers"] (spD K (He.ga K "Party") 4 S_seen) := ⟨⟨_, _, ok_seen B cc c_read_paper c_number c_item_of F46, He.glo_ok X G (y.fa 65 rfl), F46.kp, F46.binds fun _ _ _ _ _ _ us hl => match us, hl with | [_, _, _, _], _ => rfl⟩⟩
  obtain ⟨d47, F47⟩ := y.fn 47 (d := ⟨fun K => He.ga K "_law_at", "_law_at", "_law_at", s__law_at⟩) rfl
  have c_law_at : Glo P w K mg base "_law_at" 1 ["_law_p", "_law_poly", "_law_x"] (spD K (He.ga K "Party") 3 S_lat) := ⟨⟨_, _, ok_law_at B F47, He.glo_ok X G (y.fa 66 rfl), F47.kp, F47.binds fun _ _ _ _ _ _ us hl => match us, hl with | [_, _, _], _ => rfl⟩⟩
  obtain ⟨d48, F48⟩ := y.fn 48 (d := ⟨fun K => He.ga K "_law_raised", "_law_raised", "_law_raised", s__law_raised⟩) rfl
  have c_law_raised : Glo P w K mg base "_law_raised" 1 ["_law_p", "_law_a", "_law_k"] (spD K (He.ga K "Party") 3 S_raised) := ⟨⟨_, _, ok_law_raised B F48, He.glo_ok X G (y.fa 67 rfl), F48.kp, F48.binds fun _ _ _ _ _ _ us hl => match us, hl with | [_, _, _], _ => rfl⟩⟩
  obtain ⟨d49, F49⟩ := y.fn 49 (d := ⟨fun K => He.ga K "_law_inverse", "_law_inverse", "_law_inverse", s__law_inverse⟩) rfl
  have c_law_inverse : Glo P w K mg base "_law_inverse" 2 ["_law_p", "_law_a"] (spD K (He.ga K "Party") 2 S_linv) := ⟨⟨_, _, ok_law_inverse B c_law_raised F49, He.glo_ok X G (y.fa 68 rfl), F49.kp, F49.binds fun _ _ _ _ _ _ us hl => match us, hl with | [_, _], _ => rfl⟩⟩
  obtain ⟨d50, F50⟩ := y.fn 50 (d := ⟨fun K => He.ga K "_law_weights", "_law_weights", "_law_weights", s__law_weights⟩) rfl
  have c_law_weights : Glo P w K mg base "_law_weights" 3 ["_law_p", "_law_points", "_law_x"] (spN K (He.ga K "Party") 3 S_lweights) := ⟨⟨_, _, ok_law_weights B c_law_inverse F50, He.glo_ok X G (y.fa 69 rfl), F50.kp, F50.binds fun _ _ _ _ _ _ us hl => match us, hl with | [_, _, _], _ => rfl⟩⟩
  obtain ⟨d51, F51⟩ := y.fn 51 (d := ⟨fun K => He.ga K "_law_epochs", "_law_epochs", "_law_epochs", s__law_epochs⟩) rfl
  have c_law_epochs : Glo P w K mg base "_law_epochs" 1 ["_law_program_here"] (spN K (He.ga K "Party") 1 S_lepochs) := ⟨⟨_, _, ok_law_epochs B F51, He.glo_ok X G (y.fa 70 rfl), F51.kp, F51.binds fun _ _ _ _ _ _ us hl => match us, hl with | [_], _ => rfl⟩⟩
  obtain ⟨d52, F52⟩ := y.fn 52 (d := ⟨fun K => He.ga K "_law_shares", "_law_shares", "_law_shares", s__law_shares⟩) rfl
  have c_law_shares : Glo P w K mg base "_law_shares" 2 ["_law_setting", "_law_poly"] (spD K (He.ga K "Party") 2 S_lshares) := ⟨⟨_, _, ok_law_shares B c_law_at F52, He.glo_ok X G (y.fa 71 rfl), F52.kp, F52.binds fun _ _ _ _ _ _ us hl => match us, hl with | [_, _], _ => rfl⟩⟩
  obtain ⟨d53, F53⟩ := y.fn 53 (d := ⟨fun K => He.ga K "_law_seen", "_law_seen", "_law_seen", s__law_seen⟩) rfl
  have c_law_seen : Glo P w K mg base "_law_seen" 2 ["_law_setting", "_law_many", "_law_some"] (spD K (He.ga K "Party") 3 S_lseen) := ⟨⟨_, _, ok_law_seen B c_law_at F53, He.glo_ok X G (y.fa 72 rfl), F53.kp, F53.binds fun _ _ _ _ _ _ us hl => match us, hl with | [_, _, _], _ => rfl⟩⟩
  obtain ⟨d54, F54⟩ := y.fn 54 (d := ⟨fun K => He.ga K "_law_sends", "_law_sends", "_law_sends", s__law_sends⟩) rfl
  have c_law_sends : Glo P w K mg base "_law_sends" 1 ["_law_program_here", "_law_k", "_law_i", "_law_j"] (spD K (He.ga K "Party") 4 S_lsends) := ⟨⟨_, _, ok_law_sends F54, He.glo_ok X G (y.fa 73 rfl), F54.kp, F54.binds fun _ _ _ _ _ _ us hl => match us, hl with | [_, _, _, _], _ => rfl⟩⟩
  obtain ⟨d55, F55⟩ := y.fn 55 (d := ⟨fun K => He.ga K "_law_coins_of", "_law_coins_of", "_law_coins_of", s__law_coins_of⟩) rfl
  have c_law_coins_of : Glo P w K mg base "_law_coins_of" 1 ["_law_setting", "_law_program_here"] (spD K (He.ga K "Party") 2 S_lcoinsof) := ⟨⟨_, _, ok_law_coins_of B F55, He.glo_ok X G (y.fa 74 rfl), F55.kp, F55.binds fun _ _ _ _ _ _ us hl => match us, hl with | [_, _], _ => rfl⟩⟩
  obtain ⟨d56, F56⟩ := y.fn 56 (d := ⟨fun K => He.ga K "_law_poly_sum", "_law_poly_sum", "_law_poly_sum", s__law_poly_sum⟩) rfl
  have c_law_poly_sum : Glo P w K mg base "_law_poly_sum" 1 ["_law_p", "_law_rows", "_law_weighed"] (spD K (He.ga K "Party") 3 S_lpoly) := ⟨⟨_, _, ok_law_poly_sum B F56, He.glo_ok X G (y.fa 75 rfl), F56.kp, F56.binds fun _ _ _ _ _ _ us hl => match us, hl with | [_, _, _], _ => rfl⟩⟩
  obtain ⟨d57, F57⟩ := y.fn 57 (d := ⟨fun K => He.ga K "_law_run", "_law_run", "_law_run", s__law_run⟩) rfl
  have c_law_run : Glo P w K mg base "_law_run" 4 ["_law_setting", "_law_program_here", "_law_inputs_here", "_law_coins_here"] (spN K (He.ga K "Party") 4 S_lrun) := ⟨⟨_, _, ok_law_run B c_law_at c_law_weights c_law_poly_sum F57, He.glo_ok X G (y.fa 76 rfl), F57.kp, F57.binds fun _ _ _ _ _ _ us hl => match us, hl with | [_, _, _, _], _ => rfl⟩⟩
  obtain ⟨d58, F58⟩ := y.fn 58 (d := ⟨fun K => He.ga K "_law_letters", "_law_letters", "_law_letters", s__law_letters⟩) rfl
  have c_law_letters : Glo P w K mg base "_law_letters" 5 ["_law_setting", "_law_program_here", "_law_inputs_here", "_law_coins_here"] (spN K (He.ga K "Party") 4 S_lletters) := ⟨⟨_, _, ok_law_letters B c_law_run c_law_sends c_law_at F58, He.glo_ok X G (y.fa 77 rfl), F58.kp, F58.binds fun _ _ _ _ _ _ us hl => match us, hl with | [_, _, _, _], _ => rfl⟩⟩
  obtain ⟨d59, F59⟩ := y.fn 59 (d := ⟨fun K => He.ga K "_law_view", "_law_view", "_law_view", s__law_view⟩) rfl
  have c_law_view : Glo P w K mg base "_law_view" 5 ["_law_setting", "_law_program_here", "_law_inputs_here", "_law_coins_here", "_law_watchers_here"] (spD K (He.ga K "Party") 5 S_lview) := ⟨⟨_, _, ok_law_view B c_law_run c_law_epochs c_law_at c_law_seen c_law_shares F59, He.glo_ok X G (y.fa 78 rfl), F59.kp, F59.binds fun _ _ _ _ _ _ us hl => match us, hl with | [_, _, _, _, _], _ => rfl⟩⟩
  obtain ⟨d60, F60⟩ := y.fn 60 (d := ⟨fun K => He.ga K "_law_draw", "_law_draw", "_law_draw", s__law_draw⟩) rfl
  have c_law_draw : Glo P w K mg base "_law_draw" 1 ["_law_box", "_law_many"] (spB K (He.ga K "Party") 1 PreDraw PostDraw) := ⟨⟨_, _, ok_law_draw B F60, He.glo_ok X G (y.fa 79 rfl), F60.kp, F60.binds fun _ _ _ _ _ _ us hl => match us, hl with | [_, _], _ => rfl⟩⟩
  obtain ⟨d61, F61⟩ := y.fn 61 (d := ⟨fun K => He.ga K "_law_pick", "_law_pick", "_law_pick", s__law_pick⟩) rfl
  have c_law_pick : Glo P w K mg base "_law_pick" 2 ["_law_box", "_law_things"] (spB K (He.ga K "Party") 1 PrePick PostPick) := ⟨⟨_, _, ok_law_pick B c_law_draw F61, He.glo_ok X G (y.fa 80 rfl), F61.kp, F61.binds fun _ _ _ _ _ _ us hl => match us, hl with | [_, _], _ => rfl⟩⟩
  obtain ⟨d62, F62⟩ := y.fn 62 (d := ⟨fun K => He.ga K "_law_number", "_law_number", "_law_number", s__law_number⟩) rfl
  have c_law_number : Glo P w K mg base "_law_number" 2 ["_law_box", "_law_p"] (spB K (He.ga K "Party") 1 PreNum PostNum) := ⟨⟨_, _, ok_law_number B c_law_draw F62, He.glo_ok X G (y.fa 81 rfl), F62.kp, F62.binds fun _ _ _ _ _ _ us hl => match us, hl with | [_, _], _ => rfl⟩⟩
  obtain ⟨d63, F63⟩ := y.fn 63 (d := ⟨fun K => He.ga K "_law_numbers", "_law_numbers", "_law_numbers", s__law_numbers⟩) rfl
  have c_law_numbers : Glo P w K mg base "_law_numbers" 3 ["_law_box", "_law_p", "_law_many"] (spB K (He.ga K "Party") 2 PreNums PostNums) := ⟨⟨_, _, ok_law_numbers B c_law_number F63, He.glo_ok X G (y.fa 82 rfl), F63.kp, F63.binds fun _ _ _ _ _ _ us hl => match us, hl with | [_, _, _], _ => rfl⟩⟩
  obtain ⟨d64, F64⟩ := y.fn 64 (d := ⟨fun K => He.ga K "_law_few", "_law_few", "_law_few", s__law_few⟩) rfl
  have c_law_few : Glo P w K mg base "_law_few" 3 ["_law_box"] (spB K (He.ga K "Party") 0 PreNone PostFew) := ⟨⟨_, _, ok_law_few B c_law_draw c_law_pick F64, He.glo_ok X G (y.fa 83 rfl), F64.kp, F64.binds fun _ _ _ _ _ _ us hl => match us, hl with | [_], _ => rfl⟩⟩
  obtain ⟨d65, F65⟩ := y.fn 65 (d := ⟨fun K => He.ga K "_law_turned", "_law_turned", "_law_turned", s__law_turned⟩) rfl
  have c_law_turned : Glo P w K mg base "_law_turned" 2 ["_law_box", "_law_things"] (spBN K (He.ga K "Party") 1 PreTurn PostTurn) := ⟨⟨_, _, ok_law_turned B c_law_draw F65, He.glo_ok X G (y.fa 84 rfl), F65.kp, F65.binds fun _ _ _ _ _ _ us hl => match us, hl with | [_, _], _ => rfl⟩⟩
  obtain ⟨d66, F66⟩ := y.fn 66 (d := ⟨fun K => He.ga K "_law_inputs", "_law_inputs", "_law_inputs", s__law_inputs⟩) rfl
  have c_law_inputs : Glo P w K mg base "_law_inputs" 4 ["_law_box", "_law_setting", "_law_program_here"] (spB K (He.ga K "Party") 2 PreIn PostIn) := ⟨⟨_, _, ok_law_inputs B c_law_numbers F66, He.glo_ok X G (y.fa 85 rfl), F66.kp, F66.binds fun _ _ _ _ _ _ us hl => match us, hl with | [_, _, _], _ => rfl⟩⟩
  obtain ⟨d67, F67⟩ := y.fn 67 (d := ⟨fun K => He.ga K "_law_coins", "_law_coins", "_law_coins", s__law_coins⟩) rfl
  have c_law_coins : Glo P w K mg base "_law_coins" 2 ["_law_box", "_law_setting", "_law_program_here"] (spB K (He.ga K "Party") 2 PreIn PostCo) := ⟨⟨_, _, ok_law_coins B c_law_draw c_law_coins_of F67, He.glo_ok X G (y.fa 86 rfl), F67.kp, F67.binds fun _ _ _ _ _ _ us hl => match us, hl with | [_, _, _], _ => rfl⟩⟩
  obtain ⟨d68, F68⟩ := y.fn 68 (d := ⟨fun K => He.ga K "_law_watchers", "_law_watchers", "_law_watchers", s__law_watchers⟩) rfl
  have c_law_watchers : Glo P w K mg base "_law_watchers" 2 ["_law_box", "_law_setting", "_law_program_here"] (spB K (He.ga K "Party") 2 PreIn PostWa) := ⟨⟨_, _, ok_law_watchers B c_law_draw c_law_epochs F68, He.glo_ok X G (y.fa 87 rfl), F68.kp, F68.binds fun _ _ _ _ _ _ us hl => match us, hl with | [_, _, _], _ => rfl⟩⟩
  obtain ⟨d69, F69⟩ := y.fn 69 (d := ⟨fun K => He.ga K "_law_program", "_law_program", "_law_program", s__law_program⟩) rfl
  have c_law_program : Glo P w K mg base "_law_program" 3 ["_law_box", "_law_setting", "_law_most", "_law_turns"] (spB K (He.ga K "Party") 3 PreProg PostProg) := ⟨⟨_, _, ok_law_program B c_law_draw c_law_pick c_law_number F69, He.glo_ok X G (y.fa 88 rfl), F69.kp, F69.binds fun _ _ _ _ _ _ us hl => match us, hl with | [_, _, _, _], _ => rfl⟩⟩
  obtain ⟨d70, F70⟩ := y.fn 70 (d := ⟨fun K => He.ga K "_law_cell", "_law_cell", "_law_cell", s__law_cell⟩) rfl
  have c_law_cell : Glo P w K mg base "_law_cell" 1 ["_law_script", "_law_k"] (spD K (He.ga K "Party") 2 S_lcell) := ⟨⟨_, _, ok_law_cell B F70, He.glo_ok X G (y.fa 89 rfl), F70.kp, F70.binds fun _ _ _ _ _ _ us hl => match us, hl with | [_, _], _ => rfl⟩⟩
  obtain ⟨d71, F71⟩ := y.fn 71 (d := ⟨fun K => He.ga K "_law_digits", "_law_digits", "_law_digits", s__law_digits⟩) rfl
  have c_law_digits : Glo P w K mg base "_law_digits" 2 ["_law_script", "_law_first", "_law_last"] (spP K (He.ga K "Party") 3 PreDig PostDig) := ⟨⟨_, _, ok_law_digits B c_law_cell F71, He.glo_ok X G (y.fa 90 rfl), F71.kp, F71.binds fun _ _ _ _ _ _ us hl => match us, hl with | [_, _, _], _ => rfl⟩⟩
  obtain ⟨d72, F72⟩ := y.fn 72 (d := ⟨fun K => He.ga K "_law_own", "_law_own", "_law_own", s__law_own⟩) rfl
  have c_law_own : Glo P w K mg base "_law_own" 1 ["_law_setting", "_law_program_here", "_law_inputs_here", "_law_coins_here", "_law_party"] (spD K (He.ga K "Party") 5 S_lown) := ⟨⟨_, _, ok_law_own B F72, He.glo_ok X G (y.fa 91 rfl), F72.kp, F72.binds fun _ _ _ _ _ _ us hl => match us, hl with | [_, _, _, _, _], _ => rfl⟩⟩
  obtain ⟨d73, F73⟩ := y.fn 73 (d := ⟨fun K => He.ga K "_law_paper", "_law_paper", "_law_paper", s__law_paper⟩) rfl
  have c_law_paper : Glo P w K mg base "_law_paper" 1 ["_law_party", "_law_own_here", "_law_took"] (spN K (He.ga K "Party") 3 S_lpaper) := ⟨⟨_, _, ok_law_paper B F73, He.glo_ok X G (y.fa 92 rfl), F73.kp, F73.binds fun _ _ _ _ _ _ us hl => match us, hl with | [_, _, _], _ => rfl⟩⟩
  obtain ⟨d74, F74⟩ := y.fn 74 (d := ⟨fun K => He.ga K "_law_same", "_law_same", "_law_same", s__law_same⟩) rfl
  have c_law_same : GloG P w K mg base "_law_same" 1 ["_law_actual", "_law_due"] (spD K (He.ga K "Party") 2 S_lsame) := ⟨⟨_, _, ok_law_same B B.repr F74, He.glo_ok X G (y.fa 93 rfl), F74.kp, F74.binds fun _ _ _ _ _ _ us hl => match us, hl with | [_, _], _ => rfl⟩⟩
  exact ok_law B c_law_digits c_law_few c_law_program c_law_inputs c_law_coins c_law_watchers c_law_letters c_law_own c_law_turned c_law_paper c_seen c_law_view c_law_same FL
end Un
set_option maxHeartbeats 0
open PySem PySem.W PySem.Calls PyProof.Rows
set_option maxRecDepth 100000 in
set_option maxHeartbeats 0 in
theorem PySem.Challenge.cw_untold_k38_whole_papers_tell_the_view_holds : PySem.Challenge.rw_untold_k38_whole_papers_tell_the_view.Holds := by
  w_on; o_law
  refine HandSHeadRun.head_any (r := Un.RR) (q := view Un.RR.prog [81]) (H := Un.hdHook) (ob := Un.hdSees) (M := 8000) (loose := Un.nms) (d := HandSHeadRun.topDef Un.RR.prog 81) (kwd := []) Un.hdSees_eq
    (by kernel_rfl) (fun s => by kernel_rfl) Un.top_run (by kernel_rfl) (by kernel_rfl) (by kernel_rfl) (by rfl) (by first | assumption | decide +kernel) (by decide +kernel) ⟨rfl, rfl, rfl, rfl, rfl, by decide +kernel⟩ ?hw ?hc
  case hw => w_witness2
  case hc =>
    refine Un.walk_ofG (l := PySem.Challenge.rw_untold_k38_whole_papers_tell_the_view) (n := 63) (k := 13) (x := "_law_script") rfl (by decide) (by kernel_rfl) ⟨rfl, by decide, by decide⟩ fun w mg fa h Y G hmg => ?_
    obtain ⟨K, X, y⟩ := Y
    have nm : (HandSHeadRun.topDef Un.RR.prog 81).name = ("law" : PySem.Str) := by kernel_rfl
    rw [nm] at hmg
    have e := hmg.symm.trans (He.glo_ok X G (y.fa 23 rfl))
    obtain ⟨fd, F, hF⟩ := Un.facts (P := PySem.Challenge.rw_untold_k38_whole_papers_tell_the_view.prog) (w := w) X G y
    cases e
    exact ⟨K, fd, Un.spLaw K (He.ga K "Party"), X, fun s v => by
      obtain ⟨oc, od, kV, doc, pm, an, cdv, ct, osl, rfl, _, _⟩ := F.ex
      exact .of_eq rfl, fun H a ns z => ⟨H, ns, Un.Sub.refl H, Un.dats_cons ⟨a, rfl, z⟩ Un.dats_nil, fun _ => rfl⟩, fun base _ _ => hF base⟩
