import PyProof.Rows.All
import Wide.All
import OpenK.AllK
import Wide.FinOn
import KE.KStateDown
import Lean
import HandS.Base
import HandS.Call
import HandS.Exc
import HandS.Defaults
import HandS.Words
import HandS.Property
import HandS.HeadHook1
import HandS.HeadHook2
import HandS.HeadHook3
import HandS.Head0
import HandS.Head1
import HandS.Head2
import HandS.ForMost
import HandS.Star
import HandS.Conv
import HandS.TupAny
import HandS.Zip
import HandS.IsInst
import HandS.Codes
import HandS.Iter
import KE.DataFind
import KE.GoesEnum
import KE.GoesMore
import HandS.Style
import HandS.Ends
import PyProof.ReprRoads
import PyProof.ReprLen
import PyProof.Rows.ReprShort
import KE.KUnpackStar
import HandS.TupMul
import HandS.Dict
import HandS.TupSets
import HandS.SetBool
import HandS.Comp
import HandS.DictComp
import HandS.More
import HandS.Finally
import HandS.SetFor
import HandS.Strs
import HandS.HeadEnd
import PySem.Challenge.RW_pieceswindow_k95_whole_told_back_at_each
set_option Elab.async false
set_option linter.all false
set_option maxRecDepth 100000
set_option maxHeartbeats 0
namespace PW
open PySem PySem.Spec PyProof.Rows L2
abbrev top (i : Nat) : Stmt := PySem.Challenge.pw_pieceswindow_k95_whole_told_back_at_each.main.body.getD i (.Pass ⟨0, 0, 0, 0⟩)
def tbl : List (Str × Nat) := [⟨"is_integer", 12⟩, ⟨"is_from", 13⟩, ⟨"is_number", 14⟩, ⟨"is_among", 15⟩, ⟨"is_tuple_of", 16⟩, ⟨"sender_fault", 17⟩, ⟨"road_fault", 18⟩, ⟨"hearer_fault", 19⟩, ⟨"is_sender", 20⟩, ⟨"is_road", 21⟩, ⟨"want", 24⟩, ⟨"is_triple", 26⟩, ⟨"is_heard", 27⟩, ⟨"want_heard", 28⟩, ⟨"texts_in", 29⟩, ⟨"low_from", 30⟩, ⟨"high_from", 31⟩, ⟨"are_shut", 32⟩, ⟨"shut_pair", 33⟩, ⟨"spans", 34⟩, ⟨"require", 36⟩, ⟨"lets_book", 37⟩,
  ⟨"index_of_number", 39⟩, ⟨"index_to_drop", 40⟩, ⟨"kept_numbers", 41⟩, ⟨"filled", 42⟩, ⟨"opened_for", 43⟩, ⟨"heard_by", 44⟩, ⟨"hear_one", 45⟩, ⟨"first_standing", 47⟩, ⟨"with_begin", 48⟩, ⟨"with_arrival", 50⟩, ⟨"is_event", 53⟩, ⟨"begin_reason", 57⟩, ⟨"span_of_text", 58⟩, ⟨"hear_reason", 59⟩, ⟨"event_reason", 60⟩, ⟨"behind", 62⟩,
  ⟨"want_plain", 65⟩, ⟨"ends_at", 66⟩, ⟨"is_further", 67⟩, ⟨"all_meanings", 68⟩, ⟨"meanings_of", 69⟩, ⟨"width_at", 70⟩, ⟨"sure_numbers", 71⟩, ⟨"is_index", 73⟩, ⟨"is_span_row", 74⟩, ⟨"is_spans_form", 75⟩, ⟨"is_shut_form", 76⟩, ⟨"check_ends", 77⟩, ⟨"check_paces", 78⟩, ⟨"check_arrivals", 79⟩, ⟨"lets_spans", 80⟩, ⟨"span_paper", 82⟩,
  ⟨"_law_feed", 84⟩, ⟨"_law_draw", 85⟩, ⟨"_law_any", 86⟩, ⟨"_law_same", 87⟩, ⟨"_law_volume", 88⟩, ⟨"_law_starts", 89⟩, ⟨"_law_comings", 90⟩, ⟨"_law_events", 91⟩, ⟨"_law_are_starts", 92⟩, ⟨"_law_do_come", 93⟩, ⟨"_law_are_spans_right", 94⟩, ⟨"_law_are_meanings_right", 95⟩, ⟨"_law_is_run_right", 96⟩, ⟨"law", 97⟩]
abbrev lv (j : Nat) : Stmt := inClass (top 63) j
def FS : List Str := ["own_book", "own_events", "own_standings", "own_started", "own_finished"]
def mtbl : List (Str × Str × Nat) := [("reason_behind", "LiveHearer.reason_behind", 9), ("result_behind", "LiveHearer.result_behind", 10), ("lead", "LiveHearer.lead", 11), ("go", "LiveHearer.go", 12)]
/-! ### what the head's run is looked at for -/
def topDef1 (p : Str × Nat) : He.DefD := ⟨(p.1, none), p.1, p.1, defArgs (top p.2), defBody (top p.2), defScope (top p.2), [], []⟩
def lvDef (p : Str × Str × Nat) : He.DefD := ⟨("LiveHearer", some p.1), p.1, p.2.1, defArgs (lv p.2.2), defBody (lv p.2.2), defScope (lv p.2.2), [], []⟩
def iniRow : Str × Str × Nat := ("__init__", "LiveHearer.__init__", 1)
def runRow : Str × Str × Nat := ("run_now", "LiveHearer.run_now", 3)
def hFn : List He.DefD := lvDef iniRow :: (mtbl.map lvDef ++ tbl.map topDef1)
def biN : List Str := ["isinstance", "int", "bool", "str", "tuple", "list", "set", "dict", "len", "range", "enumerate", "zip", "all", "max", "min", "sorted", "repr"]
def hFa : List He.Fa := [.glo "LiveHearer", .cls "LiveHearer", .mkr "LiveHearer", .glo "DROPS"] ++ (FS.map fun f => .noat "LiveHearer" f) ++ (mtbl.map fun p => .meth "LiveHearer" p.1) ++ (biN.map fun x => .free x) ++ tbl.map fun p => .glo p.1
/-- the property and its getter -/
def prA (K : PySem.W.Frag) : Addr := match PySem.W.findIn K (.ref (He.ga K "LiveHearer")) "run_now" with
  | some (some (.ref p)) => p
  | _ => 0
def gtA (K : PySem.W.Frag) : Addr := match PySem.W.recIn K (prA K) "property" with
  | some (.ref g :: _) => g
  | _ => 0
def prB (K : PySem.W.Frag) : Bool := He.eqO (PySem.W.findIn K (.ref (He.ga K "LiveHearer")) "run_now") (some (some (.ref (prA K)))) && (He.eqO (PySem.W.specialIn K (.ref (prA K)) "__get__") (some (some (.builtin "property.__get__"))) && (decide (PySem.W.takesIn K (.ref (prA K)) = some true) && (match PySem.W.recIn K (prA K) "property" with
  | some (.ref _ :: _) => true
  | _ => false)))
theorem prB_ok {K : PySem.W.Frag} (h : prB K = true) : PropOf K (He.ga K "LiveHearer") "run_now" (prA K) (gtA K) := by
  obtain ⟨h1, h⟩ := He.ba h
  obtain ⟨h2, h⟩ := He.ba h
  obtain ⟨h3, h4⟩ := He.ba h
  refine ⟨He.eqO_ok h1, He.eqO_ok h2, of_decide_eq_true h3, ?_⟩
  unfold gtA
  split at h4
  · rename_i g rest e
    rw [e]
    exact ⟨rest, rfl⟩
  · cases h4
/-- a def found by its address -/
def atV (K : PySem.W.Frag) (a : Addr) : He.FnW := match K.lookup a with
  | some ⟨_, _, .func fd, _⟩ => some (fd.name, fd.qualname, fd.params, fd.body, fd.scope, fd.globals, fd.closure, fd.builtins)
  | _ => none
def atB (K : PySem.W.Frag) (a : Addr) (q : Str) : Bool := PySem.W.keepIn K (.ref a) && (match K.lookup a with
  | some ⟨_, _, .func fd, _⟩ => PySem.W.codeIn K fd.code q && (He.dflB K fd.defaults [] && He.kwdB K fd.kwdefaults [])
  | _ => false)
theorem at_funD {K : PySem.W.Frag} {a : Addr} {d : He.DefD} (e : atV K a = d.val) (c : atB K a d.qual = true) : ∃ fd, FunD K d.name d.qual d.params d.body d.scope [] [] a fd := by
  obtain ⟨kp, c2⟩ := He.ba c
  unfold atV He.DefD.val at e
  split at e
  · rename_i oc od fd sl q
    rw [q] at c2
    obtain ⟨n1, n2, n3, n4, n5, n6, n7, n8, n9, n10, n11, n12, n13, n14, n15⟩ := fd
    obtain ⟨k1, k2⟩ := He.ba (show (PySem.W.codeIn K n13 d.qual && (He.dflB K n8 [] && He.kwdB K n9 [])) = true from c2)
    obtain ⟨k3, k4⟩ := He.ba k2
    simp only [Option.some.injEq, Prod.mk.injEq] at e
    obtain ⟨h1, h2, h3, h4, h5, h6, h7, h8⟩ := e
    subst h1 h2 h3 h4 h5 h6 h7 h8
    exact ⟨_, ⟨oc, od, n8, n9, n10, n11, n12, n13, n14, sl, rfl, q, k1, He.dflB_ok k3, He.kwdB_ok k4⟩, kp⟩
  · cases e
def exB (K : PySem.W.Frag) : Bool := prB K && (atB K (gtA K) "LiveHearer.run_now" && (He.conB K "LiveHearer" "MOST" (.int 40) && He.tupB K "DROPS" [.str "eldest", .str "newest", .str "slowest"]))
abbrev AlP : Type := He.AlD × Bool × He.FnW
def obsP (K : PySem.W.Frag) : AlP := (He.obsD hFa hFn K, exB K, atV K (gtA K))
def valP : AlP := (He.valD hFn, true, (lvDef runRow).val)
/-- what is reached: functions' codes, classes' names, a property's getter -/
def rfP (g : Addr → Option Obj) (a : Addr) : List Addr := match g a with
  | some ⟨_, _, .func fd, _⟩ => He.refV fd.code
  | some ⟨_, _, .cls cd, _⟩ => [cd.ns]
  | some ⟨.type c, _, .fields vs, _⟩ => (match c == "property" with
    | true => He.refV (vs.getD 0 .none)
    | false => [])
  | some ⟨_, _, .dict es _, _⟩ => es.toList.flatMap fun e => He.refV e.val
  | _ => []
def grP (g : Addr → Option Obj) : Nat → List Addr → List Addr
  | 0, as => as
  | n + 1, as => as ++ grP g n (as.flatMap (rfP g))
def obsPG (n : Nat) (g : Addr → Option Obj) : AlP := obsP (He.frG g (grP g n [mainGlobals]))
def hookP (n : Nat) : PySem.W.Hook where
  α := AlP
  obs := fun s => obsPG n s.heap.get?
  val := fun _ => valP
  says := fun _ h => ∃ K : PySem.W.Frag, K.In h ∧ obsP K = valP
  of := fun _ _ e => ⟨_, He.frG_in, e⟩
  keeps := fun _ _ _ ⟨K, hK, c⟩ k => ⟨K, PySem.W.Frag.In.keeps hK k, c⟩
theorem obsPG_eq {n : Nat} {g : Addr → Option Obj} {s : Shared} (h : ∀ a, g a = s.heap.get? a) : obsPG n g = (hookP n).obs s := by
  have e : g = s.heap.get? := funext h
  rw [e] <;> rfl
end PW
namespace PW
open PySem PySem.W PySem.Calls PyProof.Rows
abbrev RR : OpenRow := OpenLaw.row PySem.Challenge.rw_pieceswindow_k95_whole_told_back_at_each
abbrev qv : Program := view RR.prog [97]
def names0 : List PySem.Str := ["_wall", "PieceError", "PaperError", "BookError", "LiveError", "InvalidPaper", "NotUsable", "Shut", "InvalidEvent", "DROPS", "is_integer", "is_from", "is_number", "is_among", "is_tuple_of", "sender_fault", "road_fault", "hearer_fault", "is_sender", "is_road", "is_hearer", "want", "is_triple", "is_heard", "want_heard", "texts_in", "low_from", "high_from", "are_shut", "shut_pair"]
def names1 : List PySem.Str := ["spans", "require", "lets_book", "index_of_number", "index_to_drop", "kept_numbers", "filled", "opened_for", "heard_by", "hear_one", "first_standing", "with_begin", "with_hearer", "with_arrival", "copies_heard", "is_event", "line_of", "begin_reason", "span_of_text", "hear_reason", "event_reason", "behind", "LiveHearer", "want_plain", "ends_at", "is_further", "all_meanings", "meanings_of", "width_at", "sure_numbers"]
def names2 : List PySem.Str := ["is_index", "is_span_row", "is_spans_form", "is_shut_form", "check_ends", "check_paces", "check_arrivals", "lets_spans", "span_paper", "_law_feed", "_law_draw", "_law_any", "_law_same", "_law_volume", "_law_starts", "_law_comings", "_law_events", "_law_are_starts", "_law_do_come", "_law_are_spans_right", "_law_are_meanings_right", "_law_is_run_right"]
def names : List PySem.Str := names0 ++ names1 ++ names2
def obL (s : PySem.W.SharedT) : AlP := obsPG 5 (HandSHeadRun.getT s)
theorem obL_eq (s : PySem.W.SharedT) : obL s = (hookP 5).obs s.abs := obsPG_eq (HandSHeadRun.getT_eq s)
theorem run (w : World) : HandSHeadRun.RunEq RR qv (hookP 5) obL 15000 names w := by
  intro os
  kernel_rfl
end PW
/-! The data layer: values as data, judgements over a data environment. -/
namespace PW
open PySem PySem.Spec PyProof.Rows L2

/-- data: what a value is, the objects read through; adr: an address, nothing said of it -/
inductive D where
  | non | bl (b : Bool) | int (i : Int) | str (x : Str) | tup (ds : List D) | lst (ds : List D) | dic (ks : List Key) (ds : List D) | adr (a : Addr) | ty (n : String)

mutual
/-- the value v is the datum d in the heap H; none of its objects is among M -/
inductive R (M : List Addr) (H : Hp) : V → D → Prop
  | non : R M H .non .non
  | bl (b : Bool) : R M H (.bl b) (.bl b)
  | int (i : Int) : R M H (.int i) (.int i)
  | str (x : Str) : R M H (.str x) (.str x)
  | adr (a : Addr) : R M H (.ref a) (.adr a)
  | ty (n : String) : R M H (.ty n) (.ty n)
  | tup {a : Addr} {xs : List V} {ds : List D} : H a = some (.tup xs) → a ∉ M → RA M H xs ds → R M H (.ref a) (.tup ds)
  | lst {a : Addr} {xs : List V} {ds : List D} : H a = some (.lst xs) → a ∉ M → RA M H xs ds → R M H (.ref a) (.lst ds)
  | dic {a : Addr} {kvs : List (Key × V)} {ks : List Key} {ds : List D} : H a = some (.dK kvs) → a ∉ M → kvs.map (·.1) = ks → RA M H (kvs.map (·.2)) ds → R M H (.ref a) (.dic ks ds)
inductive RA (M : List Addr) (H : Hp) : List V → List D → Prop
  | nil : RA M H [] []
  | cons {v : V} {vs : List V} {d : D} {ds : List D} : R M H v d → RA M H vs ds → RA M H (v :: vs) (d :: ds)
end

/-- all that is not among M is kept; nothing goes -/
structure Keep (M : List Addr) (H H' : Hp) : Prop where
  old : ∀ a o, a ∉ M → H a = some o → H' a = some o
  dom : ∀ a, H a ≠ none → H' a ≠ none
theorem Keep.refl {M : List Addr} {H : Hp} : Keep M H H := ⟨fun _ _ _ h => h, fun _ h => h⟩
theorem Keep.trans {M : List Addr} {H H1 H2 : Hp} (a : Keep M H H1) (b : Keep M H1 H2) : Keep M H H2 :=
  ⟨fun x o n h => b.old x o n (a.old x o n h), fun x h => b.dom x (a.dom x h)⟩
/-- everything is kept -/
def Ext (H H' : Hp) : Prop := ∀ a o, H a = some o → H' a = some o
theorem Ext.refl {H : Hp} : Ext H H := fun _ _ h => h
theorem Ext.trans {H H1 H2 : Hp} (a : Ext H H1) (b : Ext H1 H2) : Ext H H2 := fun x o h => b x o (a x o h)
theorem Ext.keep {M : List Addr} {H H' : Hp} (e : Ext H H') : Keep M H H' := ⟨fun a o _ h => e a o h, fun a h z => by
  cases q : H a with
  | none => exact h q
  | some o => rw [e a o q] at z; cases z⟩
theorem Ext.new {H : Hp} {p : Addr} {o : HO} (h : H p = none) : Ext H (upd H p o) := fun a u e => by
  rw [upd_ne (ne_of_none e h)]
  exact e
theorem Keep.ext {H H' : Hp} (k : Keep [] H H') : Ext H H' := fun a o h => k.old a o (by simp) h
theorem not_mem_dom {M : List Addr} {H : Hp} {p : Addr} (hM : ∀ m ∈ M, H m ≠ none) (h : H p = none) : p ∉ M := fun hp => hM p hp h

mutual
theorem R.keep {M : List Addr} {H H' : Hp} (k : Keep M H H') : ∀ {v : V} {d : D}, R M H v d → R M H' v d
  | _, _, .non => .non
  | _, _, .bl b => .bl b
  | _, _, .int i => .int i
  | _, _, .str x => .str x
  | _, _, .adr a => .adr a
  | _, _, .ty n => .ty n
  | _, _, .tup h n r => .tup (k.old _ _ n h) n (RA.keep k r)
  | _, _, .lst h n r => .lst (k.old _ _ n h) n (RA.keep k r)
  | _, _, .dic h n e r => .dic (k.old _ _ n h) n e (RA.keep k r)
theorem RA.keep {M : List Addr} {H H' : Hp} (k : Keep M H H') : ∀ {vs : List V} {ds : List D}, RA M H vs ds → RA M H' vs ds
  | _, _, .nil => .nil
  | _, _, .cons h t => .cons (R.keep k h) (RA.keep k t)
end
mutual
/-- fewer (or other) addresses to be left out -/
theorem R.sub {M N : List Addr} {H : Hp} (s : ∀ a, H a ≠ none → a ∉ M → a ∉ N) : ∀ {v : V} {d : D}, R M H v d → R N H v d
  | _, _, .non => .non
  | _, _, .bl b => .bl b
  | _, _, .int i => .int i
  | _, _, .str x => .str x
  | _, _, .adr a => .adr a
  | _, _, .ty n => .ty n
  | _, _, .tup h n r => .tup h (s _ (by rw [h]; simp) n) (RA.sub s r)
  | _, _, .lst h n r => .lst h (s _ (by rw [h]; simp) n) (RA.sub s r)
  | _, _, .dic h n e r => .dic h (s _ (by rw [h]; simp) n) e (RA.sub s r)
theorem RA.sub {M N : List Addr} {H : Hp} (s : ∀ a, H a ≠ none → a ∉ M → a ∉ N) : ∀ {vs : List V} {ds : List D}, RA M H vs ds → RA N H vs ds
  | _, _, .nil => .nil
  | _, _, .cons h t => .cons (R.sub s h) (RA.sub s t)
end
theorem RA.length {M : List Addr} {H : Hp} : ∀ {vs : List V} {ds : List D}, RA M H vs ds → vs.length = ds.length
  | _, _, .nil => rfl
  | _, _, .cons _ t => congrArg Nat.succ (RA.length t)
theorem RA.get {M : List Addr} {H : Hp} : ∀ {vs : List V} {ds : List D} {i : Nat} {d : D}, RA M H vs ds → ds[i]? = some d → ∃ v, vs[i]? = some v ∧ R M H v d
  | _, _, _, _, .nil, e => by simp at e
  | _, _, 0, _, .cons h _, e => by
    simp at e
    subst e
    exact ⟨_, rfl, h⟩
  | _, _, i + 1, d, .cons _ t, e => by
    obtain ⟨v, h1, h2⟩ := RA.get (i := i) (d := d) t (by simpa using e)
    exact ⟨v, by simpa using h1, h2⟩
theorem RA.getV {M : List Addr} {H : Hp} : ∀ {vs : List V} {ds : List D} {i : Nat} {v : V}, RA M H vs ds → vs[i]? = some v → ∃ d, ds[i]? = some d ∧ R M H v d
  | _, _, _, _, .nil, e => by simp at e
  | _, _, 0, _, .cons h _, e => by
    simp at e
    subst e
    exact ⟨_, rfl, h⟩
  | _, _, i + 1, d, .cons _ t, e => by
    obtain ⟨v, h1, h2⟩ := RA.getV (i := i) t (by simpa using e)
    exact ⟨v, by simpa using h1, h2⟩
theorem RA.append {M : List Addr} {H : Hp} : ∀ {vs us : List V} {ds es : List D}, RA M H vs ds → RA M H us es → RA M H (vs ++ us) (ds ++ es)
  | _, _, _, _, .nil, s => s
  | _, _, _, _, .cons h t, s => .cons h (RA.append t s)
theorem RA.take {M : List Addr} {H : Hp} : ∀ {vs : List V} {ds : List D} (n : Nat), RA M H vs ds → RA M H (vs.take n) (ds.take n)
  | _, _, 0, _ => .nil
  | _, _, _ + 1, .nil => .nil
  | _, _, n + 1, .cons h t => .cons h (RA.take n t)
theorem RA.drop {M : List Addr} {H : Hp} : ∀ {vs : List V} {ds : List D} (n : Nat), RA M H vs ds → RA M H (vs.drop n) (ds.drop n)
  | _, _, 0, r => r
  | _, _, _ + 1, .nil => .nil
  | _, _, n + 1, .cons _ t => RA.drop n t
theorem RA.set {M : List Addr} {H : Hp} {v : V} {d : D} (r : R M H v d) : ∀ {vs : List V} {ds : List D} (i : Nat), RA M H vs ds → RA M H (vs.set i v) (ds.set i d)
  | _, _, _, .nil => .nil
  | _, _, 0, .cons _ t => .cons r t
  | _, _, i + 1, .cons h t => .cons h (RA.set r i t)

/-! ### mutable objects -/
inductive MO where
  | lst (ds : List D)
  | dic (ks : List Key) (ds : List D)
  | ins (C dx : Addr) (fs : List Str) (ds : List D)
  | opq (o : HO)
def MOk (M : List Addr) (H : Hp) (a : Addr) : MO → Prop
  | .lst ds => ∃ xs, H a = some (.lst xs) ∧ RA M H xs ds
  | .dic ks ds => ∃ kvs, H a = some (.dK kvs) ∧ kvs.map (·.1) = ks ∧ RA M H (kvs.map (·.2)) ds
  | .ins C dx fs ds => ∃ l, H a = some (.ins C dx l) ∧ l.map (·.1) = fs ∧ RA M H (l.map (·.2)) ds
  | .opq o => H a = some o
theorem MOk.there {M : List Addr} {H : Hp} {a : Addr} {o : MO} (h : MOk M H a o) : H a ≠ none := by
  cases o with
  | lst ds => obtain ⟨xs, h, _⟩ := h; rw [h]; simp
  | dic ks ds => obtain ⟨xs, h, _⟩ := h; rw [h]; simp
  | ins C dx fs ds => obtain ⟨xs, h, _⟩ := h; rw [h]; simp
  | opq o => rw [show H a = some o from h]; simp
/-- M's objects hold os -/
structure Sok (M : List Addr) (os : List MO) (H : Hp) : Prop where
  len : os.length = M.length
  nd : M.Nodup
  at_ : ∀ (i : Nat) a o, M[i]? = some a → os[i]? = some o → MOk M H a o
theorem Sok.dom {M : List Addr} {os : List MO} {H : Hp} (s : Sok M os H) : ∀ m ∈ M, H m ≠ none := fun m hm => by
  obtain ⟨i, hi⟩ := List.getElem?_of_mem hm
  have hl : i < os.length := by
    rw [s.len]
    exact (List.getElem?_eq_some_iff.mp hi).1
  exact (s.at_ i m os[i] hi (List.getElem?_eq_getElem hl)).there
theorem Sok.nil {H : Hp} : Sok [] [] H := ⟨rfl, List.nodup_nil, fun i a o h => by simp at h⟩
theorem MOk.keepX {M : List Addr} {H H' : Hp} {a : Addr} {o : MO} (k : Keep M H H') (e : H' a = H a) (h : MOk M H a o) : MOk M H' a o := by
  cases o with
  | lst ds => obtain ⟨xs, h1, h2⟩ := h; exact ⟨xs, e.trans h1, h2.keep k⟩
  | dic ks ds => obtain ⟨xs, h1, h2, h3⟩ := h; exact ⟨xs, e.trans h1, h2, h3.keep k⟩
  | ins C dx fs ds => obtain ⟨xs, h1, h2, h3⟩ := h; exact ⟨xs, e.trans h1, h2, h3.keep k⟩
  | opq o => exact e.trans h
theorem Sok.ext {M : List Addr} {os : List MO} {H H' : Hp} (s : Sok M os H) (e : Ext H H') : Sok M os H' := ⟨s.len, s.nd, fun i a o h1 h2 => by
  have q := s.at_ i a o h1 h2
  refine q.keepX e.keep ?_
  cases z : H a with
  | none => exact absurd z q.there
  | some u => exact e a u z⟩
/-- the i-th object is changed -/
theorem Sok.put {M : List Addr} {os : List MO} {H H' : Hp} {i : Nat} {a : Addr} {o : MO} (s : Sok M os H) (hi : M[i]? = some a) (k : Keep M H H') (same : ∀ b, b ≠ a → H b ≠ none → H' b = H b) (new : MOk M H' a o) : Sok M (os.set i o) H' :=
  ⟨by rw [List.length_set]; exact s.len, s.nd, fun j b u h1 h2 => by
    by_cases e : i = j
    · subst e
      rw [hi] at h1
      cases h1
      have hl : i < os.length := by
        rw [s.len]
        exact (List.getElem?_eq_some_iff.mp hi).1
      rw [List.getElem?_set_self hl] at h2
      cases h2
      exact new
    · rw [List.getElem?_set_ne e] at h2
      have q := s.at_ j b u h1 h2
      exact q.keepX k (same b (fun z => e (by
        obtain ⟨l1, e1⟩ := List.getElem?_eq_some_iff.mp hi
        obtain ⟨l2, e2⟩ := List.getElem?_eq_some_iff.mp h1
        exact (List.getElem_inj s.nd).mp (by rw [e1, e2, z]))) q.there)⟩
/-- one more -/
theorem Sok.more {M : List Addr} {os : List MO} {H H' : Hp} {p : Addr} {o : MO} (s : Sok M os H) (hp : H p = none) (e : Ext H H') (new : MOk (p :: M) H' p o) : Sok (p :: M) (o :: os) H' := by
  have hpM : p ∉ M := not_mem_dom s.dom hp
  refine ⟨by simp [s.len], List.nodup_cons.mpr ⟨hpM, s.nd⟩, fun i a u h1 h2 => ?_⟩
  cases i with
  | zero =>
    simp at h1 h2
    subst h1 h2
    exact new
  | succ i =>
    simp at h1 h2
    have q := (s.at_ i a u h1 h2)
    have w : ∀ b, H b ≠ none → b ∉ M → b ∉ p :: M := fun b hb n z => by
      rcases List.mem_cons.mp z with z | z
      · exact hb (z ▸ hp)
      · exact n z
    have e1 : H' a = H a := by
      cases z : H a with
      | none => exact absurd z q.there
      | some v => exact e a v z
    cases u with
    | lst ds => obtain ⟨xs, h1, h2⟩ := q; exact ⟨xs, e1.trans h1, (h2.sub w).keep e.keep⟩
    | dic ks ds => obtain ⟨xs, h1, h2, h3⟩ := q; exact ⟨xs, e1.trans h1, h2, (h3.sub w).keep e.keep⟩
    | ins C dx fs ds => obtain ⟨xs, h1, h2, h3⟩ := q; exact ⟨xs, e1.trans h1, h2, (h3.sub w).keep e.keep⟩
    | opq o => exact e1.trans q
/-- one less (its data do not lean on p) -/
theorem MOk.less {M : List Addr} {H : Hp} {p a : Addr} {o : MO} (q : MOk (p :: M) H a o) : MOk M H a o := by
  have w : ∀ b, H b ≠ none → b ∉ p :: M → b ∉ M := fun b _ n z => n (List.mem_cons_of_mem _ z)
  cases o with
  | lst ds => obtain ⟨xs, h1, h2⟩ := q; exact ⟨xs, h1, h2.sub w⟩
  | dic ks ds => obtain ⟨xs, h1, h2, h3⟩ := q; exact ⟨xs, h1, h2, h3.sub w⟩
  | ins C dx fs ds => obtain ⟨xs, h1, h2, h3⟩ := q; exact ⟨xs, h1, h2, h3.sub w⟩
  | opq o => exact q
theorem Sok.less {M : List Addr} {o : MO} {os : List MO} {H : Hp} {p : Addr} (s : Sok (p :: M) (o :: os) H) : Sok M os H :=
  ⟨by have := s.len; simpa using this, (List.nodup_cons.mp s.nd).2, fun i a u h1 h2 => (s.at_ (i + 1) a u (by simpa using h1) (by simpa using h2)).less⟩
theorem R.less {M : List Addr} {H : Hp} {p : Addr} {v : V} {d : D} (r : R (p :: M) H v d) : R M H v d := r.sub fun b _ n z => n (List.mem_cons_of_mem _ z)
theorem R.more {M : List Addr} {H : Hp} {p : Addr} {v : V} {d : D} (hp : H p = none) (r : R M H v d) : R (p :: M) H v d := r.sub fun b hb n z => by
  rcases List.mem_cons.mp z with z | z
  · exact hb (z ▸ hp)
  · exact n z

/-! ### the environment -/
structure EnvR (M : List Addr) (H : Hp) (σ : L2.St) (δ : List (Option D)) : Prop where
  len : δ.length = σ.length
  at_ : ∀ (i : Nat) d, δ[i]? = some (some d) → ∃ v, σ[i]? = some (some v) ∧ R M H v d
theorem EnvR.keep {M : List Addr} {H H' : Hp} {σ : L2.St} {δ : List (Option D)} (k : Keep M H H') (e : EnvR M H σ δ) : EnvR M H' σ δ := ⟨e.len, fun i d h => by
  obtain ⟨v, h1, h2⟩ := e.at_ i d h
  exact ⟨v, h1, h2.keep k⟩⟩
theorem EnvR.set {M : List Addr} {H : Hp} {σ : L2.St} {δ : List (Option D)} {v : V} {d : D} (i : Nat) (e : EnvR M H σ δ) (r : R M H v d) : EnvR M H (σ.set i (some v)) (δ.set i (some d)) := ⟨by rw [List.length_set, List.length_set]; exact e.len, fun j u h => by
  by_cases q : i = j
  · subst q
    have hl : i < δ.length := by
      have := (List.getElem?_eq_some_iff.mp h).1
      rwa [List.length_set] at this
    rw [List.getElem?_set_self hl] at h
    cases h
    exact ⟨v, by rw [List.getElem?_set_self (e.len ▸ hl)], r⟩
  · rw [List.getElem?_set_ne q] at h ⊢
    exact e.at_ j u h⟩
theorem EnvR.sub {M N : List Addr} {H : Hp} {σ : L2.St} {δ : List (Option D)} (s : ∀ a, H a ≠ none → a ∉ M → a ∉ N) (e : EnvR M H σ δ) : EnvR N H σ δ := ⟨e.len, fun i d h => by
  obtain ⟨v, h1, h2⟩ := e.at_ i d h
  exact ⟨v, h1, h2.sub s⟩⟩
theorem EnvR.more {M : List Addr} {H : Hp} {p : Addr} {σ : L2.St} {δ : List (Option D)} (hp : H p = none) (e : EnvR M H σ δ) : EnvR (p :: M) H σ δ := e.sub fun b hb n z => by
  rcases List.mem_cons.mp z with z | z
  · exact hb (z ▸ hp)
  · exact n z
def wipeD (δ : List (Option D)) : List Nat → List (Option D)
  | [] => δ
  | v :: vs => (wipeD δ vs).set v none
theorem wipeD_len (δ : List (Option D)) : ∀ vs : List Nat, (wipeD δ vs).length = δ.length
  | [] => rfl
  | v :: vs => by
    unfold wipeD
    rw [List.length_set, wipeD_len δ vs]
theorem EnvR.wipe {M : List Addr} {H : Hp} {σ : L2.St} {δ : List (Option D)} (e : EnvR M H σ δ) : ∀ vs : List Nat, EnvR M H (L2.wipe σ vs) (wipeD δ vs)
  | [] => e
  | v :: vs => by
    have ih := e.wipe vs
    refine ⟨by rw [wipeD_len, wipe_length]; exact e.len, fun i d h => ?_⟩
    unfold wipeD at h
    unfold L2.wipe
    by_cases q : v = i
    · subst q
      by_cases hl : v < (wipeD δ vs).length
      · rw [List.getElem?_set_self hl] at h
        cases h
      · rw [List.getElem?_eq_none (by simpa using hl)] at h
        cases h
    · rw [List.getElem?_set_ne q] at h ⊢
      exact ih.at_ i d h
theorem EnvR.start {M : List Addr} {H : Hp} {N : List Str} {vs : List V} {ds : List D} (r : RA M H vs ds) : EnvR M H (L2.start N vs) (ds.map some ++ List.replicate (N.length - ds.length) none) := by
  have hl := r.length
  unfold L2.start
  refine ⟨by simp [hl], fun i d h => ?_⟩
  by_cases hi : i < ds.length
  · rw [List.getElem?_append_left (by simpa using hi), List.getElem?_map] at h
    obtain ⟨d', h1, h2⟩ := Option.map_eq_some_iff.mp h
    cases h2
    obtain ⟨v, h3, h4⟩ := r.get h1
    refine ⟨v, ?_, h4⟩
    rw [List.getElem?_append_left (by simp; omega), List.getElem?_map, h3] <;> rfl
  · rw [List.getElem?_append_right (by simpa using hi), List.getElem?_replicate] at h
    split at h <;> cases h
end PW
namespace PW
open PySem PySem.Spec PyProof.Rows L2

theorem pe_imp {X : Cx} {e : Expr} {t t' : TE} (h : PE X e t) (hi : ∀ σ H Q, t' σ H Q → t σ H Q) : PE X e t' := ⟨fun pins s σ H Q I w => h.run pins s σ H Q I (hi _ _ _ w)⟩
theorem pt_imp {X : Cx} {e : Expr} {t t' : TT} (h : PT X e t) (hi : ∀ σ H Q, t' σ H Q → t σ H Q) : PT X e t' := ⟨fun pins s σ H Q I w => h.run pins s σ H Q I (hi _ _ _ w)⟩
theorem pw_imp {X : Cx} {e : Expr} {t t' : TT} (h : PW X e t) (hi : ∀ σ H Q, t' σ H Q → t σ H Q) : PW X e t' := ⟨fun wh pins s σ H Q I w => h.run wh pins s σ H Q I (hi _ _ _ w)⟩
theorem pa_imp {X : Cx} {e : List Expr} {t t' : TA} (h : PA X e t) (hi : ∀ σ H Q, t' σ H Q → t σ H Q) : PA X e t' := ⟨fun pos pins s σ H Q I w => h.run pos pins s σ H Q I (hi _ _ _ w)⟩
theorem pss_imp {X : Cx} {e : List Stmt} {t t' : TS} (h : PSs X e t) (hi : ∀ Dn σ H, t' Dn σ H → t Dn σ H) : PSs X e t' := ⟨fun pins s σ H Dn I w => h.run pins s σ H Dn I (hi _ _ _ w)⟩
theorem pg_imp {X : Cx} {e : Expr} {t t' : TG} (h : PG X e t) (hi : ∀ v σ H Q, t' v σ H Q → t v σ H Q) : PG X e t' := ⟨fun pins s σ H v u Q I r w => h.run pins s σ H v u Q I r (hi _ _ _ _ w)⟩
theorem pgs_imp {X : Cx} {e : List Expr} {t t' : TGs} (h : PGs X e t) (hi : ∀ v σ H Q, t' v σ H Q → t v σ H Q) : PGs X e t' := ⟨fun pins s σ H v u Q I r w => h.run pins s σ H v u Q I r (hi _ _ _ _ w)⟩
theorem pi_imp {X : Cx} {tg e : Expr} {t t' : TI} (h : PI X tg e t) (hi : ∀ σ H Rq, t' σ H Rq → t σ H Rq) : PI X tg e t' := ⟨fun pins s σ H Rq I w => h.run pins s σ H Rq I (hi _ _ _ w)⟩
theorem pss_ex {X : Cx} {ι : Sort _} {sts : List Stmt} {t : ι → TS} (h : ∀ i, PSs X sts (t i)) : PSs X sts (fun Dn σ H => ∃ i, t i Dn σ H) := ⟨fun pins s σ H Dn I ⟨i, w⟩ => (h i).run pins s σ H Dn I w⟩

/-! ### judgements -/
def tE (M : List Addr) (os : List MO) (δ : List (Option D)) (d : D) (os' : List MO) : TE := fun σ H Q => Sok M os H ∧ EnvR M H σ δ ∧ ∀ v H', Keep M H H' → Sok M os' H' → R M H' v d → Q v H'
def tT (M : List Addr) (os : List MO) (δ : List (Option D)) (b : Bool) (os' : List MO) : TT := fun σ H Q => Sok M os H ∧ EnvR M H σ δ ∧ ∀ H', Keep M H H' → Sok M os' H' → Q b H'
def tA (M : List Addr) (os : List MO) (δ : List (Option D)) (ds : List D) (os' : List MO) : TA := fun σ H Q => Sok M os H ∧ EnvR M H σ δ ∧ ∀ vs H', Keep M H H' → Sok M os' H' → RA M H' vs ds → Q vs H'
/-- e gives the datum d; the objects of M go from os to os' -/
abbrev Ev (X : Cx) (M : List Addr) (os : List MO) (δ : List (Option D)) (e : Expr) (d : D) (os' : List MO) : Prop := PE X e (tE M os δ d os')
abbrev Tst (X : Cx) (M : List Addr) (os : List MO) (δ : List (Option D)) (e : Expr) (b : Bool) (os' : List MO) : Prop := PT X e (tT M os δ b os')
abbrev Tsw (X : Cx) (M : List Addr) (os : List MO) (δ : List (Option D)) (e : Expr) (b : Bool) (os' : List MO) : Prop := PW X e (tT M os δ b os')
abbrev Arg (X : Cx) (M : List Addr) (os : List MO) (δ : List (Option D)) (es : List Expr) (ds : List D) (os' : List MO) : Prop := PA X es (tA M os δ ds os')
/-- what is wanted at a block's end, of what is returned -/
structure Kt where
  mn : List Addr
  mr : List Addr
  nx : List (Option D) → List MO → Prop
  rt : D → List MO → Prop
def tS (M : List Addr) (os : List MO) (δ : List (Option D)) (k : Kt) : TS := fun Dn σ H => Sok M os H ∧ EnvR M H σ δ ∧
  (∀ σ' H' δ' os', Keep M H H' → Sok k.mn os' H' → EnvR k.mn H' σ' δ' → k.nx δ' os' → Dn.nx σ' H') ∧ (∀ v d H' os', Keep M H H' → Sok k.mr os' H' → R k.mr H' v d → k.rt d os' → Dn.rt v H')
/-- fewer objects are told of -/
def Drp (M : List Addr) (os : List MO) (N : List Addr) (os' : List MO) : Prop := (∀ H, Sok M os H → Sok N os' H) ∧ ∀ a ∈ N, a ∈ M
theorem Drp.refl {M : List Addr} {os : List MO} : Drp M os M os := ⟨fun _ h => h, fun _ h => h⟩
theorem Drp.cons {L : Addr} {M N : List Addr} {o : MO} {os os' : List MO} (d : Drp M os N os') : Drp (L :: M) (o :: os) N os' := ⟨fun H h => d.1 H h.less, fun a h => List.mem_cons_of_mem _ (d.2 a h)⟩
theorem Drp.r {M N : List Addr} {os os' : List MO} (q : Drp M os N os') {H : Hp} {v : V} {d : D} (r : R M H v d) : R N H v d := r.sub fun a _ n h => n (q.2 a h)
theorem Drp.en {M N : List Addr} {os os' : List MO} (q : Drp M os N os') {H : Hp} {σ : L2.St} {δ : List (Option D)} (r : EnvR M H σ δ) : EnvR N H σ δ := r.sub fun a _ n h => n (q.2 a h)
abbrev Stm (X : Cx) (M : List Addr) (os : List MO) (δ : List (Option D)) (sts : List Stmt) (k : Kt) : Prop := PSs X sts (tS M os δ k)

section
variable {X : Cx} {M : List Addr} {os os1 os2 os3 os4 : List MO} {δ δ' : List (Option D)} {a b c e : Expr} {pos : Pos} {d da db : D}

/-! ### names, constants -/
theorem ev_var (i : Nat) {x : Str} (h : δ[i]? = some (some d)) (hN : X.N[i]? = some x := by rfl) (hv : Vis X.env.scope x := by first | exact Or.inl rfl | exact Or.inr (Or.inl rfl) | exact Or.inr (Or.inr rfl)) (hd : (x == ("__debug__" : Str)) = false := by decide) (hcd : (x == ("__classdict__" : Str)) = false := by decide) :
    Ev X M os δ (.Name x pos) d os := pe_imp (pe_var hN hv hd hcd) fun σ H Q ⟨s, en, k⟩ => by
  obtain ⟨v, h1, h2⟩ := en.at_ i d h
  exact ⟨v, h1, k v H .refl s h2⟩
theorem ev_int {i : Int} {j} : Ev X M os δ (.Constant (.int i) j pos) (.int i) os := pe_imp pe_int fun σ H Q ⟨s, en, k⟩ => k _ H .refl s (.int i)
theorem ev_bl {i : Bool} {j} : Ev X M os δ (.Constant (.bool i) j pos) (.bl i) os := pe_imp pe_bl fun σ H Q ⟨s, en, k⟩ => k _ H .refl s (.bl i)
theorem ev_non {j} : Ev X M os δ (.Constant .none j pos) .non os := pe_imp pe_non fun σ H Q ⟨s, en, k⟩ => k _ H .refl s .non
theorem ev_str {i : Str} {j} : Ev X M os δ (.Constant (.str i) j pos) (.str i) os := pe_imp pe_str fun σ H Q ⟨s, en, k⟩ => k _ H .refl s (.str i)
/-- the same datum, told otherwise -/
theorem ev_eq (h : Ev X M os δ e da os1) (e1 : da = d) : Ev X M os δ e d os1 := e1 ▸ h

/-! ### operators on ints -/
theorem ev_opI {op : Operator} {r : R2} {i j z : Int} (ho : OpR X (binaryOp op) r) (ha : Ev X M os δ a (.int i) os1) (hb : Ev X M os1 δ b (.int j) os2) (hr : ∀ (H : Hp) (Q : VK), Q (.int z) H → r (.int i) (.int j) H Q) : Ev X M os δ (.BinOp a op b pos) (.int z) os2 :=
  pe_imp (pe_op ho ha hb) fun σ H Q ⟨s, en, k⟩ => ⟨s, en, fun v H1 k1 s1 r1 => ⟨s1, en.keep k1, fun w H2 k2 s2 r2 => by
    cases r1
    cases r2
    exact hr _ _ (k _ _ (k1.trans k2) s2 (.int _))⟩⟩
theorem ev_add {i j : Int} (ha : Ev X M os δ a (.int i) os1) (hb : Ev X M os1 δ b (.int j) os2) : Ev X M os δ (.BinOp a .Add b pos) (.int (i + j)) os2 := ev_opI op_add ha hb fun _ _ q => ⟨_, _, rfl, rfl, q⟩
theorem ev_sub {i j : Int} (ha : Ev X M os δ a (.int i) os1) (hb : Ev X M os1 δ b (.int j) os2) : Ev X M os δ (.BinOp a .Sub b pos) (.int (i - j)) os2 := ev_opI op_sub ha hb fun _ _ q => ⟨_, _, rfl, rfl, q⟩
theorem ev_mul {i j : Int} (ha : Ev X M os δ a (.int i) os1) (hb : Ev X M os1 δ b (.int j) os2) (hc : CMul i j) : Ev X M os δ (.BinOp a .Mult b pos) (.int (i * j)) os2 := ev_opI op_mul ha hb fun _ _ q => ⟨_, _, rfl, rfl, hc, q⟩
theorem ev_fdiv {i j : Int} (ha : Ev X M os δ a (.int i) os1) (hb : Ev X M os1 δ b (.int j) os2) (hc : CDiv i j) : Ev X M os δ (.BinOp a .FloorDiv b pos) (.int (i / j)) os2 := ev_opI op_fdiv ha hb fun _ _ q => ⟨_, _, rfl, rfl, hc, q⟩
theorem ev_mod {i j : Int} (ha : Ev X M os δ a (.int i) os1) (hb : Ev X M os1 δ b (.int j) os2) (hc : 0 < j) : Ev X M os δ (.BinOp a .Mod b pos) (.int (i % j)) os2 := ev_opI op_mod ha hb fun _ _ q => ⟨_, _, rfl, rfl, hc, q⟩
theorem ev_pow {i j : Int} (ha : Ev X M os δ a (.int i) os1) (hb : Ev X M os1 δ b (.int j) os2) (hc : CPow i j) : Ev X M os δ (.BinOp a .Pow b pos) (.int (i ^ j.toNat)) os2 := ev_opI op_pow ha hb fun _ _ q => ⟨_, _, rfl, rfl, hc, q⟩
theorem ev_neg {i : Int} (ha : Ev X M os δ a (.int i) os1) : Ev X M os δ (.UnaryOp .USub a pos) (.int (-i)) os1 :=
  pe_imp (pe_un un_neg ha) fun σ H Q ⟨s, en, k⟩ => ⟨s, en, fun v H1 k1 s1 r1 => by
    cases r1
    exact ⟨_, rfl, k _ _ k1 s1 (.int _)⟩⟩

/-! ### comparisons -/
/-- a comparison of two data: its answer k -/
def Cmp (X : Cx) (M : List Addr) (os : List MO) (op : CmpOp) (da db : D) (k : Bool) : Prop := ∃ r : R2, OpR X (compareOp op) r ∧ ∀ (x y : V) (H : Hp) (Q : VK), Sok M os H → R M H x da → R M H y db → Q (.bl k) H → r x y H Q
theorem ev_cmp {op : CmpOp} {k : Bool} (ho : Cmp X M os2 op da db k) (ha : Ev X M os δ a da os1) (hb : Ev X M os1 δ b db os2) (hm : behindInMarks op b = false := by first | exact nomark _ | rfl) : Ev X M os δ (.Compare a [op] [b] pos) (.bl k) os2 := by
  obtain ⟨r, ho, hr⟩ := ho
  exact pe_imp (pe_cmpR ho ha hb hm) fun σ H Q ⟨s, en, kq⟩ => ⟨s, en, fun v H1 k1 s1 r1 => ⟨s1, en.keep k1, fun w H2 k2 s2 r2 => hr _ _ _ _ s2 (r1.keep k2) r2 (kq _ _ (k1.trans k2) s2 (.bl _))⟩⟩
theorem tst_cmp {op : CmpOp} {k : Bool} (ho : Cmp X M os2 op da db k) (ha : Ev X M os δ a da os1) (hb : Ev X M os1 δ b db os2) (hm : behindInMarks op b = false := by first | exact nomark _ | rfl) : Tst X M os δ (.Compare a [op] [b] pos) k os2 := by
  obtain ⟨r, ho, hr⟩ := ho
  exact pt_imp (pt_cmpR ho ha hb hm) fun σ H Q ⟨s, en, kq⟩ => ⟨s, en, fun v H1 k1 s1 r1 => ⟨s1, en.keep k1, fun w H2 k2 s2 r2 => hr _ _ _ _ s2 (r1.keep k2) r2 ⟨k, rfl, kq _ (k1.trans k2) s2⟩⟩⟩
theorem ev_chain {op op' : CmpOp} {dc : D} {k k' : Bool} (ho : Cmp X M os2 op da db k) (ho' : Cmp X M os3 op' db dc k') (ha : Ev X M os δ a da os1) (hb : Ev X M os1 δ b db os2) (hc : Ev X M os2 δ c dc os3) (hs : k = false → os2 = os3) (hm : lastMarks [op, op'] [b, c] = false := by with_unfolding_all rfl) :
    Ev X M os δ (.Compare a [op, op'] [b, c] pos) (.bl (k && k')) os3 := by
  obtain ⟨r, ho, hr⟩ := ho
  obtain ⟨r', ho', hr'⟩ := ho'
  exact pe_imp (pe_chain ho ho' ha hb hc hm) fun σ H Q ⟨s, en, kq⟩ => ⟨s, en, fun v H1 k1 s1 r1 => ⟨s1, en.keep k1, fun w H2 k2 s2 r2 => hr _ _ _ _ s2 (r1.keep k2) r2 ⟨k, rfl, by
    cases k with
    | true => exact iteT ⟨s2, en.keep (k1.trans k2), fun z H3 k3 s3 r3 => hr' _ _ _ _ s3 (r2.keep k3) r3 (kq _ _ ((k1.trans k2).trans k3) s3 (.bl _))⟩
    | false => exact iteF (kq _ _ (k1.trans k2) (hs rfl ▸ s2) (.bl _))⟩⟩⟩
theorem tst_chain {op op' : CmpOp} {dc : D} {k k' : Bool} (ho : Cmp X M os2 op da db k) (ho' : Cmp X M os3 op' db dc k') (ha : Ev X M os δ a da os1) (hb : Ev X M os1 δ b db os2) (hc : Ev X M os2 δ c dc os3) (hs : k = false → os2 = os3) (hm : lastMarks [op, op'] [b, c] = false := by with_unfolding_all rfl) :
    Tst X M os δ (.Compare a [op, op'] [b, c] pos) (k && k') os3 := by
  obtain ⟨r, ho, hr⟩ := ho
  obtain ⟨r', ho', hr'⟩ := ho'
  exact pt_imp (pt_chain ho ho' ha hb hc hm) fun σ H Q ⟨s, en, kq⟩ => ⟨s, en, fun v H1 k1 s1 r1 => ⟨s1, en.keep k1, fun w H2 k2 s2 r2 => hr _ _ _ _ s2 (r1.keep k2) r2 ⟨k, rfl, by
    cases k with
    | true => exact iteT ⟨s2, en.keep (k1.trans k2), fun z H3 k3 s3 r3 => hr' _ _ _ _ s3 (r2.keep k3) r3 ⟨k', rfl, kq _ ((k1.trans k2).trans k3) s3⟩⟩
    | false => exact iteF ⟨false, rfl, kq _ (k1.trans k2) (hs rfl ▸ s2)⟩⟩⟩⟩
theorem c_I {op : CmpOp} {g : Int → Int → Bool} {i j : Int} (ho : OpR X (compareOp op) (rI0 fun i j => .bl (g i j))) : Cmp X M os op (.int i) (.int j) (g i j) := ⟨_, ho, fun x y H Q _ h1 h2 q => by
  cases h1
  cases h2
  exact ⟨_, _, rfl, rfl, q⟩⟩
theorem c_lt {i j : Int} : Cmp X M os .Lt (.int i) (.int j) (decide (i < j)) := c_I op_lt
theorem c_le {i j : Int} : Cmp X M os .LtE (.int i) (.int j) (decide (i ≤ j)) := c_I op_le
theorem c_gt {i j : Int} : Cmp X M os .Gt (.int i) (.int j) (decide (j < i)) := c_I op_gt
theorem c_ge {i j : Int} : Cmp X M os .GtE (.int i) (.int j) (decide (j ≤ i)) := c_I op_ge
theorem c_eqI {i j : Int} : Cmp X M os .Eq (.int i) (.int j) (decide (i = j)) := ⟨_, op_eq, fun x y H Q _ h1 h2 q => by
  cases h1
  cases h2
  refine ⟨rfl, ?_⟩
  have e : decide (V.int i = V.int j) = decide (i = j) := by simp
  rw [e]
  exact q⟩
theorem c_neI {i j : Int} : Cmp X M os .NotEq (.int i) (.int j) (!decide (i = j)) := ⟨_, op_ne, fun x y H Q _ h1 h2 q => by
  cases h1
  cases h2
  refine ⟨rfl, ?_⟩
  have e : decide (V.int i = V.int j) = decide (i = j) := by simp
  rw [e]
  exact q⟩
theorem c_eqS {i j : Str} : Cmp X M os .Eq (.str i) (.str j) (decide (i = j)) := ⟨_, op_eq, fun x y H Q _ h1 h2 q => by
  cases h1
  cases h2
  refine ⟨rfl, ?_⟩
  have e : decide (V.str i = V.str j) = decide (i = j) := by simp
  rw [e]
  exact q⟩
theorem c_neS {i j : Str} : Cmp X M os .NotEq (.str i) (.str j) (!decide (i = j)) := ⟨_, op_ne, fun x y H Q _ h1 h2 q => by
  cases h1
  cases h2
  refine ⟨rfl, ?_⟩
  have e : decide (V.str i = V.str j) = decide (i = j) := by simp
  rw [e]
  exact q⟩
def D.isNon : D → Bool
  | .non => true
  | _ => false
theorem R.isNon {H : Hp} {x : V} (r : R M H x d) : decide (x = V.non) = d.isNon := by cases r <;> simp [D.isNon]
theorem c_isN : Cmp X M os .Is d .non d.isNon := ⟨_, op_isN, fun x y H Q _ h1 h2 q => by
  cases h2
  refine ⟨rfl, ?_⟩
  rw [h1.isNon]
  exact q⟩
theorem c_notN : Cmp X M os .IsNot d .non (!d.isNon) := ⟨_, op_notN, fun x y H Q _ h1 h2 q => by
  cases h2
  refine ⟨rfl, ?_⟩
  rw [h1.isNon]
  exact q⟩

/-! ### and, or, not, if -/
theorem tst_val {k : Bool} (h : Ev X M os δ e (.bl k) os1) (he : ∀ whole, isTrue e X.env whole = (do let v ← whole; standAt e.pos; holding [v] (truthy v)) := by intro _; rfl) : Tst X M os δ e k os1 :=
  pt_imp (pt_val h he) fun σ H Q ⟨s, en, kq⟩ => ⟨s, en, fun v H1 k1 s1 r1 => by
    cases r1
    exact ⟨k, rfl, kq _ k1 s1⟩⟩
theorem tst_not {k : Bool} (h : Tst X M os δ a k os1) : Tst X M os δ (.UnaryOp .Not a pos) (!k) os1 := pt_imp (pt_not h) fun σ H Q ⟨s, en, kq⟩ => ⟨s, en, fun H1 k1 s1 => kq _ k1 s1⟩
theorem tst_bop {op} (h : Tsw X M os δ (.BoolOp op [a, b] pos) k os1) : Tst X M os δ (.BoolOp op [a, b] pos) k os1 := h.pt
theorem tst_w {k : Bool} (h : Tsw X M os δ e k os1) : Tst X M os δ e k os1 := h.pt
theorem tsw_and1 {k : Bool} (h : Tst X M os δ a k os1) : Tsw X M os δ (.BoolOp .And [a] pos) k os1 := pw_and1 h
theorem tsw_or1 {k : Bool} (h : Tst X M os δ a k os1) : Tsw X M os δ (.BoolOp .Or [a] pos) k os1 := pw_or1 h
theorem pw_never {e : Expr} : PW X e (fun _ _ _ => False) := ⟨fun _ _ _ _ _ _ _ h => h.elim⟩
theorem pe_never {e : Expr} : PE X e (fun _ _ _ => False) := ⟨fun _ _ _ _ _ _ h => h.elim⟩
/-- a and ..: the rest is asked where a is true -/
theorem tsw_and {k k' : Bool} {rest : List Expr} (h : Tst X M os δ a k os1) (h2 : k = true → Tsw X M os1 δ (.BoolOp .And (b :: rest) pos) k' os1) : Tsw X M os δ (.BoolOp .And (a :: b :: rest) pos) (k && k') os1 := by
  cases k with
  | true => exact pw_imp (pw_and h (h2 rfl)) fun σ H Q ⟨s, en, kq⟩ => ⟨s, en, fun H1 k1 s1 => iteT ⟨s1, en.keep k1, fun H2 k2 s2 => kq _ (k1.trans k2) s2⟩⟩
  | false => exact pw_imp (pw_and h pw_never) fun σ H Q ⟨s, en, kq⟩ => ⟨s, en, fun H1 k1 s1 => iteF (kq _ k1 s1)⟩
theorem tsw_or {k k' : Bool} {rest : List Expr} (h : Tst X M os δ a k os1) (h2 : k = false → Tsw X M os1 δ (.BoolOp .Or (b :: rest) pos) k' os1) : Tsw X M os δ (.BoolOp .Or (a :: b :: rest) pos) (k || k') os1 := by
  cases k with
  | false => exact pw_imp (pw_or h (h2 rfl)) fun σ H Q ⟨s, en, kq⟩ => ⟨s, en, fun H1 k1 s1 => iteF ⟨s1, en.keep k1, fun H2 k2 s2 => kq _ (k1.trans k2) s2⟩⟩
  | true => exact pw_imp (pw_or h pw_never) fun σ H Q ⟨s, en, kq⟩ => ⟨s, en, fun H1 k1 s1 => iteT (kq _ k1 s1)⟩
theorem ev_one {op} (h : Ev X M os δ a d os1) : Ev X M os δ (.BoolOp op [a] pos) d os1 := pe_one h
theorem ev_and {k k' : Bool} {rest : List Expr} (h : Ev X M os δ a (.bl k) os1) (h2 : k = true → Ev X M os1 δ (.BoolOp .And (b :: rest) pos) (.bl k') os1) : Ev X M os δ (.BoolOp .And (a :: b :: rest) pos) (.bl (k && k')) os1 := by
  cases k with
  | true => exact pe_imp (pe_and h (h2 rfl)) fun σ H Q ⟨s, en, kq⟩ => ⟨s, en, fun v H1 k1 s1 r1 => by
      cases r1
      exact ⟨true, rfl, iteT ⟨s1, en.keep k1, fun w H2 k2 s2 r2 => kq _ _ (k1.trans k2) s2 r2⟩⟩⟩
  | false => exact pe_imp (pe_and h pe_never) fun σ H Q ⟨s, en, kq⟩ => ⟨s, en, fun v H1 k1 s1 r1 => by
      cases r1
      exact ⟨false, rfl, iteF (kq _ _ k1 s1 (.bl _))⟩⟩
theorem ev_or {k k' : Bool} {rest : List Expr} (h : Ev X M os δ a (.bl k) os1) (h2 : k = false → Ev X M os1 δ (.BoolOp .Or (b :: rest) pos) (.bl k') os1) : Ev X M os δ (.BoolOp .Or (a :: b :: rest) pos) (.bl (k || k')) os1 := by
  cases k with
  | false => exact pe_imp (pe_or h (h2 rfl)) fun σ H Q ⟨s, en, kq⟩ => ⟨s, en, fun v H1 k1 s1 r1 => by
      cases r1
      exact ⟨false, rfl, iteF ⟨s1, en.keep k1, fun w H2 k2 s2 r2 => kq _ _ (k1.trans k2) s2 r2⟩⟩⟩
  | true => exact pe_imp (pe_or h pe_never) fun σ H Q ⟨s, en, kq⟩ => ⟨s, en, fun v H1 k1 s1 r1 => by
      cases r1
      exact ⟨true, rfl, iteT (kq _ _ k1 s1 (.bl _))⟩⟩
theorem ev_not {k : Bool} (h : Ev X M os δ a (.bl k) os1) : Ev X M os δ (.UnaryOp .Not a pos) (.bl (!k)) os1 := pe_imp (pe_not h) fun σ H Q ⟨s, en, kq⟩ => ⟨s, en, fun v H1 k1 s1 r1 => by
  cases r1
  exact ⟨k, rfl, kq _ _ k1 s1 (.bl _)⟩⟩
theorem ev_if {k : Bool} (hc : Tst X M os δ c k os1) (ha : k = true → Ev X M os1 δ a d os2) (hb : k = false → Ev X M os1 δ b d os2) : Ev X M os δ (.IfExp c a b pos) d os2 := by
  cases k with
  | true => exact pe_imp (pe_ifExp hc (ha rfl) pe_never) fun σ H Q ⟨s, en, kq⟩ => ⟨s, en, fun H1 k1 s1 => iteT ⟨s1, en.keep k1, fun w H2 k2 s2 r2 => kq _ _ (k1.trans k2) s2 r2⟩⟩
  | false => exact pe_imp (pe_ifExp hc pe_never (hb rfl)) fun σ H Q ⟨s, en, kq⟩ => ⟨s, en, fun H1 k1 s1 => iteF ⟨s1, en.keep k1, fun w H2 k2 s2 r2 => kq _ _ (k1.trans k2) s2 r2⟩⟩

theorem tsw_orT {rest : List Expr} (h : Tst X M os δ a true os1) : Tsw X M os δ (.BoolOp .Or (a :: b :: rest) pos) true os1 := pw_imp (pw_or h pw_never) fun σ H Q ⟨s, en, kq⟩ => ⟨s, en, fun H1 k1 s1 => iteT (kq _ k1 s1)⟩
theorem tsw_andF {rest : List Expr} (h : Tst X M os δ a false os1) : Tsw X M os δ (.BoolOp .And (a :: b :: rest) pos) false os1 := pw_imp (pw_and h pw_never) fun σ H Q ⟨s, en, kq⟩ => ⟨s, en, fun H1 k1 s1 => iteF (kq _ k1 s1)⟩
theorem ev_orT {rest : List Expr} (h : Ev X M os δ a (.bl true) os1) : Ev X M os δ (.BoolOp .Or (a :: b :: rest) pos) (.bl true) os1 := pe_imp (pe_or h pe_never) fun σ H Q ⟨s, en, kq⟩ => ⟨s, en, fun v H1 k1 s1 r1 => by
  cases r1
  exact ⟨true, rfl, iteT (kq _ _ k1 s1 (.bl _))⟩⟩
theorem ev_andF {rest : List Expr} (h : Ev X M os δ a (.bl false) os1) : Ev X M os δ (.BoolOp .And (a :: b :: rest) pos) (.bl false) os1 := pe_imp (pe_and h pe_never) fun σ H Q ⟨s, en, kq⟩ => ⟨s, en, fun v H1 k1 s1 r1 => by
  cases r1
  exact ⟨false, rfl, iteF (kq _ _ k1 s1 (.bl _))⟩⟩
theorem ev_ifT (hc : Tst X M os δ c true os1) (ha : Ev X M os1 δ a d os2) : Ev X M os δ (.IfExp c a b pos) d os2 := ev_if hc (fun _ => ha) fun h => by cases h
theorem ev_ifF (hc : Tst X M os δ c false os1) (hb : Ev X M os1 δ b d os2) : Ev X M os δ (.IfExp c a b pos) d os2 := ev_if hc (fun h => by cases h) fun _ => hb

/-! ### arguments, displays -/
theorem arg_nil : Arg X M os δ [] [] os := pa_imp pa_nil fun σ H Q ⟨s, en, kq⟩ => kq _ _ .refl s .nil
theorem arg_cons {es : List Expr} {ds : List D} (h : Ev X M os δ e d os1) (hr : Arg X M os1 δ es ds os2) (hs : starEach (e :: es) X.env = (false, eval e X.env) :: starEach es X.env := by rfl) : Arg X M os δ (e :: es) (d :: ds) os2 :=
  pa_imp (pa_cons h hr hs) fun σ H Q ⟨s, en, kq⟩ => ⟨s, en, fun v H1 k1 s1 r1 => ⟨s1, en.keep k1, fun vs H2 k2 s2 r2 => kq _ _ (k1.trans k2) s2 (.cons (r1.keep k2) r2)⟩⟩
theorem arg_starT {es : List Expr} {ds fs : List D} {p : Pos} (h : Ev X M os δ e (.tup fs) os1) (hr : Arg X M os1 δ es ds os2) (hs : starEach (.Starred e p :: es) X.env = (true, eval e X.env) :: starEach es X.env := by rfl) : Arg X M os δ (.Starred e p :: es) (fs ++ ds) os2 :=
  pa_imp (StX.pa_star h hr hs) fun σ H Q ⟨s, en, kq⟩ => ⟨s, en, fun v H1 k1 s1 r1 => by
    cases r1 with
    | tup ha hm hx => exact ⟨_, _, rfl, .inl (.of ha), s1, en.keep k1, fun vs H2 k2 s2 r2 => kq _ _ (k1.trans k2) s2 ((hx.keep k2).append r2)⟩⟩
theorem arg_starL {es : List Expr} {ds fs : List D} {p : Pos} (h : Ev X M os δ e (.lst fs) os1) (hr : Arg X M os1 δ es ds os2) (hs : starEach (.Starred e p :: es) X.env = (true, eval e X.env) :: starEach es X.env := by rfl) : Arg X M os δ (.Starred e p :: es) (fs ++ ds) os2 :=
  pa_imp (StX.pa_star h hr hs) fun σ H Q ⟨s, en, kq⟩ => ⟨s, en, fun v H1 k1 s1 r1 => by
    cases r1 with
    | lst ha hm hx => exact ⟨_, _, rfl, .inr (.of ha), s1, en.keep k1, fun vs H2 k2 s2 r2 => kq _ _ (k1.trans k2) s2 ((hx.keep k2).append r2)⟩⟩
/-- a new tuple, a new list -/
theorem new_tup {H : Hp} {p : Addr} {vs : List V} {ds : List D} (s : Sok M os H) (hp : H p = none) (r : RA M H vs ds) : R M (upd H p (.tup vs)) (.ref p) (.tup ds) := .tup upd_same (not_mem_dom s.dom hp) (r.keep (Ext.new hp).keep)
theorem new_lst {H : Hp} {p : Addr} {vs : List V} {ds : List D} (s : Sok M os H) (hp : H p = none) (r : RA M H vs ds) : R M (upd H p (.lst vs)) (.ref p) (.lst ds) := .lst upd_same (not_mem_dom s.dom hp) (r.keep (Ext.new hp).keep)
theorem sz_ok {n : Nat} (h : n ≤ 1000000) : n ≤ sizeLine := by
  rw [sizeLine_eq]
  omega
theorem ev_tup {es : List Expr} {ds : List D} {x1} (h : Arg X M os δ es ds os1) (hl : ds.length ≤ 1000000 := by first | exact Nat.le_of_ble_eq_true rfl | omega | (simp; omega)) : Ev X M os δ (.Tuple es x1 pos) (.tup ds) os1 := pe_imp (pe_tup h) fun σ H Q ⟨s, en, kq⟩ => ⟨s, en, fun vs H1 k1 s1 r1 =>
  ⟨by rw [r1.length]; exact sz_ok hl, fun p hp => kq _ _ (k1.trans (Ext.new hp).keep) (s1.ext (Ext.new hp)) (new_tup s1 hp r1)⟩⟩
theorem ev_lst {es : List Expr} {ds : List D} (h : Arg X M os δ es ds os1) (hl : ds.length ≤ 1000000 := by first | exact Nat.le_of_ble_eq_true rfl | omega | (simp; omega)) : Ev X M os δ (.List es pos) (.lst ds) os1 := pe_imp (pe_lst h) fun σ H Q ⟨s, en, kq⟩ => ⟨s, en, fun vs H1 k1 s1 r1 =>
  ⟨by rw [r1.length]; exact sz_ok hl, fun p hp => kq _ _ (k1.trans (Ext.new hp).keep) (s1.ext (Ext.new hp)) (new_lst s1 hp r1)⟩⟩

/-! ### subscripts, slices -/
theorem atI_RA {H : Hp} : ∀ {vs : List V} {ds : List D} {i : Int} {d : D}, RA M H vs ds → atI ds i = some d → ∃ v, atI vs i = some v ∧ R M H v d := fun {vs ds i d} r h => by
  unfold atI at h ⊢
  rw [r.length]
  cases e : ixN ds.length i with
  | none => rw [e] at h; cases h
  | some j =>
    rw [e] at h
    exact r.get h
theorem ev_ixT {ds : List D} {i : Int} (ha : Ev X M os δ a (.tup ds) os1) (hb : Ev X M os1 δ b (.int i) os2) (hx : atI ds i = some d) (hs : PlainIx b := by exact fun _ _ => rfl) : Ev X M os δ (.Subscript a b pos) d os2 :=
  pe_imp (pe_ix ix_tup ha hb hs) fun σ H Q ⟨s, en, kq⟩ => ⟨s, en, fun v H1 k1 s1 r1 => ⟨s1, en.keep k1, fun w H2 k2 s2 r2 => by
    cases r2
    cases r1 with
    | tup h1 hm hr =>
      obtain ⟨z, hz, rz⟩ := atI_RA hr hx
      exact ⟨_, _, _, z, rfl, rfl, .of (k2.old _ _ hm h1), hz, kq _ _ (k1.trans k2) s2 (rz.keep k2)⟩⟩⟩
theorem ev_ixL {ds : List D} {i : Int} (ha : Ev X M os δ a (.lst ds) os1) (hb : Ev X M os1 δ b (.int i) os2) (hx : atI ds i = some d) (hs : PlainIx b := by exact fun _ _ => rfl) : Ev X M os δ (.Subscript a b pos) d os2 :=
  pe_imp (pe_ix ix_list ha hb hs) fun σ H Q ⟨s, en, kq⟩ => ⟨s, en, fun v H1 k1 s1 r1 => ⟨s1, en.keep k1, fun w H2 k2 s2 r2 => by
    cases r2
    cases r1 with
    | lst h1 hm hr =>
      obtain ⟨z, hz, rz⟩ := atI_RA hr hx
      exact ⟨_, _, _, z, rfl, rfl, .of (k2.old _ _ hm h1), hz, kq _ _ (k1.trans k2) s2 (rz.keep k2)⟩⟩⟩
/-- a slice's part -/
def tO (M : List Addr) (os : List MO) (δ : List (Option D)) (o : Option Int) (os' : List MO) : TO := fun σ H Q => Sok M os H ∧ EnvR M H σ δ ∧ ∀ H', Keep M H H' → Sok M os' H' → Q o H'
abbrev Prt (X : Cx) (M : List Addr) (os : List MO) (δ : List (Option D)) (e : Option Expr) (o : Option Int) (os' : List MO) : Prop := PO X e (tO M os δ o os')
theorem po_imp {X : Cx} {e : Option Expr} {t t' : TO} (h : PO X e t) (hi : ∀ σ H Q, t' σ H Q → t σ H Q) : PO X e t' := ⟨fun pins s σ H Q I w => h.run pins s σ H Q I (hi _ _ _ w)⟩
theorem prt_no : Prt X M os δ none none os := po_imp po_none fun σ H Q ⟨s, en, kq⟩ => kq _ .refl s
theorem prt_yes {i : Int} (h : Ev X M os δ e (.int i) os1) : Prt X M os δ (some e) (some i) os1 := po_imp (po_some h) fun σ H Q ⟨s, en, kq⟩ => ⟨s, en, fun v H1 k1 s1 r1 => by
  cases r1
  exact ⟨i, rfl, kq _ k1 s1⟩⟩
/-- the data of xs[lo:hi] -/
def cutD {α : Type} (xs : List α) (lo hi : Option Int) : List α := (xs.drop (HT.sIx xs.length 0 lo)).take (HT.sIx xs.length xs.length hi - HT.sIx xs.length 0 lo)
theorem cutD_map {α β : Type} (f : α → β) (xs : List α) (lo hi : Option Int) : cutD (xs.map f) lo hi = (cutD xs lo hi).map f := by
  unfold cutD
  rw [List.length_map, List.map_take, List.map_drop]
theorem cut_RA {H : Hp} {vs : List V} {ds : List D} (r : RA M H vs ds) (lo hi : Option Int) : RA M H (cutV vs lo hi) (cutD ds lo hi) := by
  unfold cutV cutD
  rw [r.length]
  exact (r.drop _).take _
theorem ev_cutT {ds : List D} {lo hi : Option Expr} {l h : Option Int} {p2 : Pos} (ha : Ev X M os δ a (.tup ds) os1) (hl : Prt X M os1 δ lo l os2) (hh : Prt X M os2 δ hi h os3) : Ev X M os δ (.Subscript a (.Slice lo hi none p2) pos) (.tup (cutD ds l h)) os3 :=
  pe_imp (pe_slice sl_tupA ha hl hh) fun σ H Q ⟨s, en, kq⟩ => ⟨s, en, fun v H1 k1 s1 r1 => ⟨s1, en.keep k1, fun H2 k2 s2 => ⟨s2, en.keep (k1.trans k2), fun H3 k3 s3 => by
    cases r1 with
    | @tup q xs _ h1 hm hr =>
      have hH := (k2.trans k3).old _ _ hm h1
      have r3 := hr.keep (k2.trans k3)
      refine ⟨q, xs, rfl, .of hH, fun w => ?_, fun w p hp => ?_⟩
      · refine kq _ _ ((k1.trans k2).trans k3) s3 (.tup hH hm ?_)
        have e : cutV xs l h = xs := by
          unfold cutV
          rw [w.1, w.2]
          simp
        have e2 := cut_RA r3 l h
        rw [e] at e2
        exact e2
      · exact kq _ _ (((k1.trans k2).trans k3).trans (Ext.new hp).keep) (s3.ext (Ext.new hp)) (new_tup s3 hp (cut_RA r3 l h))⟩⟩⟩
theorem ev_cutL {ds : List D} {lo hi : Option Expr} {l h : Option Int} {p2 : Pos} (ha : Ev X M os δ a (.lst ds) os1) (hl : Prt X M os1 δ lo l os2) (hh : Prt X M os2 δ hi h os3) : Ev X M os δ (.Subscript a (.Slice lo hi none p2) pos) (.lst (cutD ds l h)) os3 :=
  pe_imp (pe_slice sl_list ha hl hh) fun σ H Q ⟨s, en, kq⟩ => ⟨s, en, fun v H1 k1 s1 r1 => ⟨s1, en.keep k1, fun H2 k2 s2 => ⟨s2, en.keep (k1.trans k2), fun H3 k3 s3 => by
    cases r1 with
    | @lst q xs _ h1 hm hr =>
      have hH := (k2.trans k3).old _ _ hm h1
      have r3 := hr.keep (k2.trans k3)
      exact ⟨q, xs, rfl, .of hH, fun p hp => kq _ _ (((k1.trans k2).trans k3).trans (Ext.new hp).keep) (s3.ext (Ext.new hp)) (new_lst s3 hp (cut_RA r3 l h))⟩⟩⟩⟩
/-- t + u of tuples -/
theorem ev_catT {ds es : List D} (ha : Ev X M os δ a (.tup ds) os1) (hb : Ev X M os1 δ b (.tup es) os2) (hz : ds.length + es.length ≤ 1000000 := by first | exact Nat.le_of_ble_eq_true rfl | omega | (simp; omega)) : Ev X M os δ (.BinOp a .Add b pos) (.tup (ds ++ es)) os2 :=
  pe_imp (pe_op op_catA ha hb) fun σ H Q ⟨s, en, kq⟩ => ⟨s, en, fun v H1 k1 s1 r1 => ⟨s1, en.keep k1, fun w H2 k2 s2 r2 => by
    cases r1 with
    | @tup p xs _ h1 hm hr =>
      cases r2 with
      | @tup q ys _ h2 hm2 hr2 =>
        have hr' := hr.keep k2
        have h1' := k2.old _ _ hm h1
        refine ⟨p, q, xs, ys, rfl, rfl, .of h1', .of h2, by rw [hr.length, hr2.length]; exact sz_ok hz, fun z => ?_, fun _ z => ?_, fun _ _ n hn => ?_⟩
        · subst z
          cases hr
          exact kq _ _ (k1.trans k2) s2 (.tup h2 hm2 hr2)
        · subst z
          cases hr2
          rw [List.append_nil] at kq
          exact kq _ _ (k1.trans k2) s2 (.tup h1' hm hr')
        · exact kq _ _ ((k1.trans k2).trans (Ext.new hn).keep) (s2.ext (Ext.new hn)) (new_tup s2 hn (hr'.append hr2))⟩⟩
end
end PW
namespace PW
open PySem PySem.Spec PyProof.Rows L2

/-! ### targets -/
def gD (M : List Addr) (sl : List Nat) (φ : D → List (Option D) → Option (List (Option D))) : TG := fun v σ H Q => ∃ d δ δ', R M H v d ∧ EnvR M H σ δ ∧ φ d δ = some δ' ∧ ∀ σ', EnvR M H σ' δ' → (∀ vs : List Nat, (∀ j ∈ sl, j ∈ vs) → L2.wipe σ' vs = L2.wipe σ vs) → Q σ' H
def gDs (M : List Addr) (sl : List Nat) (φ : List D → List (Option D) → Option (List (Option D))) : TGs := fun v σ H Q => ∃ ds δ δ', RA M H v ds ∧ EnvR M H σ δ ∧ φ ds δ = some δ' ∧ ∀ σ', EnvR M H σ' δ' → (∀ vs : List Nat, (∀ j ∈ sl, j ∈ vs) → L2.wipe σ' vs = L2.wipe σ vs) → Q σ' H
abbrev Tgt (X : Cx) (M : List Addr) (tg : Expr) (sl : List Nat) (φ : D → List (Option D) → Option (List (Option D))) : Prop := PG X tg (gD M sl φ)
abbrev Tgts (X : Cx) (M : List Addr) (tg : List Expr) (sl : List Nat) (φ : List D → List (Option D) → Option (List (Option D))) : Prop := PGs X tg (gDs M sl φ)
def fName (i : Nat) : D → List (Option D) → Option (List (Option D)) := fun d δ => some (δ.set i (some d))
def fNil : List D → List (Option D) → Option (List (Option D)) := fun ds δ => match ds with
  | [] => some δ
  | _ => none
def fCons (φ : D → List (Option D) → Option (List (Option D))) (ψ : List D → List (Option D) → Option (List (Option D))) : List D → List (Option D) → Option (List (Option D)) := fun ds δ => match ds with
  | d :: r => (φ d δ).bind (ψ r)
  | [] => none
def fTup (ψ : List D → List (Option D) → Option (List (Option D))) : D → List (Option D) → Option (List (Option D)) := fun d δ => match d with
  | .tup ds => ψ ds δ
  | _ => none
theorem wipe_set {i : Nat} {x : Option V} : ∀ {vs : List Nat} {σ : L2.St}, i ∈ vs → L2.wipe (σ.set i x) vs = L2.wipe σ vs
  | v :: vs, σ, h => by
    unfold L2.wipe
    by_cases e : i ∈ vs
    · rw [wipe_set e]
    · have ei : i = v := by
        rcases List.mem_cons.mp h with z | z
        · exact z
        · exact absurd z e
      subst ei
      have : ∀ (ws : List Nat), i ∉ ws → ∀ τ : L2.St, L2.wipe (τ.set i x) ws = (L2.wipe τ ws).set i x := by
        intro ws
        induction ws with
        | nil => intro _ τ; rfl
        | cons w ws ih =>
          intro hn τ
          have h1 : i ≠ w := fun z => hn (z ▸ List.mem_cons_self)
          have h2 : i ∉ ws := fun z => hn (List.mem_cons_of_mem _ z)
          unfold L2.wipe
          rw [ih h2 τ, List.set_comm _ _ h1]
      rw [this vs e σ, List.set_set]
section
variable {X : Cx} {M : List Addr} {pos : Pos}
theorem tgt_name (i : Nat) {x : Str} (hN : X.N.Nodup) (hi : X.N[i]? = some x := by rfl) (hx : Loc X.env.scope x := by first | exact Or.inl rfl | exact Or.inr rfl) (hf : X.fn x = true ∨ X.env.scope.names.lookup x = some .local := by first | exact .inl rfl | exact .inr rfl) : Tgt X M (.Name x pos) [i] (fName i) :=
  pg_imp (pg_name hN hi hx hf) fun v σ H Q ⟨d, δ, δ', r, en, e, k⟩ => by
    cases e
    exact k _ (en.set i r) fun vs h => wipe_set (h i (by simp))
theorem tgts_nil : Tgts X M [] [] fNil := pgs_imp pgs_nil fun v σ H Q ⟨ds, δ, δ', r, en, e, k⟩ => by
  cases r with
  | nil =>
    cases e
    exact ⟨rfl, k _ en fun vs _ => rfl⟩
  | cons _ _ => cases e
theorem tgts_cons {e : Expr} {es : List Expr} {sl sl2 : List Nat} {φ ψ} (h : Tgt X M e sl φ) (h2 : Tgts X M es sl2 ψ) (hs : (assignEach (e :: es) X.env).map (·.2) = assign e X.env :: (assignEach es X.env).map (·.2) := by rfl) : Tgts X M (e :: es) (sl ++ sl2) (fCons φ ψ) :=
  pgs_imp (pgs_cons h h2 hs) fun v σ H Q ⟨ds, δ, δ', r, en, q, k⟩ => by
    cases r with
    | nil => cases q
    | cons r1 r2 =>
      obtain ⟨δ1, q1, q2⟩ := Option.bind_eq_some_iff.mp (show (φ _ δ).bind (ψ _) = some δ' from q)
      refine ⟨_, _, rfl, _, δ, δ1, r1, en, q1, fun σ1 e1 w1 => ⟨_, δ1, δ', r2, e1, q2, fun σ2 e2 w2 => k σ2 e2 fun vs hv => ?_⟩⟩
      rw [w2 vs fun j hj => hv j (List.mem_append_right _ hj), w1 vs fun j hj => hv j (List.mem_append_left _ hj)]
theorem tgt_tup {es : List Expr} {k : Nat} {sl : List Nat} {ψ} (hc : X.calm = true) (h : Tgts X M es sl ψ) (hl : ∀ ds δ δ', ψ ds δ = some δ' → ds.length = (assignEach es X.env).length) (hst : (assignEach es X.env).findIdx? (·.1) = none := by rfl) : Tgt X M (.Tuple es k pos) sl (fTup ψ) :=
  pg_imp (pg_tup hc h rfl hst) fun v σ H Q ⟨d, δ, δ', r, en, q, k⟩ => by
    cases r with
    | tup h1 hm hr =>
      exact ⟨_, _, rfl, .of h1, by rw [hr.length]; exact hl _ _ _ q, _, δ, δ', hr, en, q, k⟩
    | _ => cases q
theorem fNil_len : ∀ ds δ δ', fNil ds δ = some δ' → ds.length = 0 := fun ds δ δ' h => by
  cases ds with
  | nil => rfl
  | cons _ _ => cases h
theorem fCons_len {φ ψ} {n : Nat} (h : ∀ ds δ δ', ψ ds δ = some δ' → ds.length = n) : ∀ ds δ δ', fCons φ ψ ds δ = some δ' → ds.length = n + 1 := fun ds δ δ' q => by
  cases ds with
  | nil => cases q
  | cons d r =>
    obtain ⟨δ1, q1, q2⟩ := Option.bind_eq_some_iff.mp (show (φ _ δ).bind (ψ _) = some δ' from q)
    rw [List.length_cons, h _ _ _ q2]
end

/-! ### what is walked -/
def itOk (M : List Addr) (J : It) (ds : List D) (H0 : Hp) : Prop := ∀ N : List Addr, (∀ a, H0 a ≠ none → a ∉ M → a ∉ N) → (∀ a ∈ M, a ∈ N) → ∀ (i : Nat) (H : Hp), Keep N H0 H →
  (∀ m ∈ N, H m ≠ none) → (∀ d, ds[i]? = some d → J.go i H ∧ ∀ x H', J.yld i H x H' → Ext H H' ∧ R N H' x d) ∧ (i = ds.length → J.stop i H)
def tI (M : List Addr) (os : List MO) (δ : List (Option D)) (ds : List D) (os' : List MO) : TI := fun σ H Rq => Sok M os H ∧ EnvR M H σ δ ∧ ∀ J H', Keep M H H' → Sok M os' H' → itOk M J ds H' → Rq J H'
abbrev Wk (X : Cx) (M : List Addr) (os : List MO) (δ : List (Option D)) (tg iter : Expr) (ds : List D) (os' : List MO) : Prop := PI X tg iter (tI M os δ ds os')
section
variable {X : Cx} {M : List Addr} {os os1 os2 os3 : List MO} {δ : List (Option D)} {tg e a b : Expr} {pos p : Pos} {ds : List D}
theorem wk_tup (h : Ev X M os δ e (.tup ds) os1) : Wk X M os δ tg e ds os1 := pi_imp (pi_tup h) fun σ H Rq ⟨s, en, k⟩ => ⟨s, en, fun v H1 k1 s1 r1 => by
  cases r1 with
  | @tup q xs _ h1 hm hr =>
    refine ⟨q, rfl, ⟨xs, .of h1⟩, k _ _ k1 s1 fun N hN hM i H2 k2 hd => ⟨fun d hd => ?_, fun hi => ?_⟩⟩
    · have hq : H2 q = some (.tup xs) := k2.old _ _ (hN q (by rw [h1]; simp) hm) h1
      obtain ⟨v, hv, rv⟩ := hr.get hd
      refine ⟨⟨xs, v, .of hq, hv⟩, fun x H' ⟨e1, e2⟩ => ?_⟩
      subst e1
      have e3 := e2 xs (.of hq)
      rw [hv] at e3
      cases e3
      exact ⟨Ext.refl, (rv.sub fun a ha hn => hN a ha hn).keep k2⟩
    · have hq : H2 q = some (.tup xs) := k2.old _ _ (hN q (by rw [h1]; simp) hm) h1
      exact ⟨xs, .of hq, by rw [hr.length]; omega⟩⟩
theorem wk_lst (h : Ev X M os δ e (.lst ds) os1) : Wk X M os δ tg e ds os1 := pi_imp (pi_list h) fun σ H Rq ⟨s, en, k⟩ => ⟨s, en, fun v H1 k1 s1 r1 => by
  cases r1 with
  | @lst q xs _ h1 hm hr =>
    refine ⟨q, rfl, ⟨xs, .of h1⟩, k _ _ k1 s1 fun N hN hM i H2 k2 hd => ⟨fun d hd => ?_, fun hi => ?_⟩⟩
    · have hq : H2 q = some (.lst xs) := k2.old _ _ (hN q (by rw [h1]; simp) hm) h1
      obtain ⟨v, hv, rv⟩ := hr.get hd
      refine ⟨⟨xs, v, .of hq, hv⟩, fun x H' ⟨e1, e2⟩ => ?_⟩
      subst e1
      have e3 := e2 xs (.of hq)
      rw [hv] at e3
      cases e3
      exact ⟨Ext.refl, (rv.sub fun a ha hn => hN a ha hn).keep k2⟩
    · have hq : H2 q = some (.lst xs) := k2.old _ _ (hN q (by rw [h1]; simp) hm) h1
      exact ⟨xs, .of hq, by rw [hr.length]; omega⟩⟩
def rngD (lo : Int) (n : Nat) : List D := (List.range n).map fun i : Nat => D.int (lo + (i : Int))
theorem rngD_get {lo : Int} {n i : Nat} {d : D} (h : (rngD lo n)[i]? = some d) : i < n ∧ d = .int (lo + (i : Int)) := by
  unfold rngD at h
  rw [List.getElem?_map] at h
  obtain ⟨j, h1, h2⟩ := Option.map_eq_some_iff.mp h
  obtain ⟨h3, h4⟩ := List.getElem?_eq_some_iff.mp h1
  rw [List.getElem_range] at h4
  rw [List.length_range] at h3
  subst h4
  exact ⟨h3, h2.symm⟩
theorem rngD_len {lo : Int} {n : Nat} : (rngD lo n).length = n := by simp [rngD]
theorem itOk_rng {lo : Int} {n : Nat} {H : Hp} : itOk M (Itr lo n) (rngD lo n) H := fun N hN hM i H2 k2 hd => ⟨fun d hd => by
  obtain ⟨h1, h2⟩ := rngD_get hd
  refine ⟨h1, fun x H' ⟨e1, e2⟩ => ?_⟩
  subst e1 e2 h2
  exact ⟨Ext.refl, .int _⟩, fun hi => by rw [rngD_len] at hi; exact Nat.le_of_eq hi.symm⟩
theorem wk_rng1 {n : Int} (hm : X.mg "range" = none) (h : Arg X M os δ [a] [.int n] os1) (hn : -(2 ^ 62) ≤ n ∧ n < 2 ^ 62) (hg : Gl X "range" := by rfl) (hs : starEach [a] X.env = [(false, eval a X.env)] := by rfl) : Wk X M os δ tg (.Call (.Name "range" p) [a] [] pos) (rngD 0 n.toNat) os1 :=
  pi_imp (pi_range1 hg hm h hs) fun σ H Rq ⟨s, en, k⟩ => ⟨s, en, fun vs H1 k1 s1 r1 => by
    cases r1 with
    | cons r1 r2 =>
      cases r1
      cases r2
      exact ⟨n, rfl, hn.1, hn.2, k _ _ k1 s1 itOk_rng⟩⟩
theorem wk_rng2 {m n : Int} (hm : X.mg "range" = none) (h : Arg X M os δ [a, b] [.int m, .int n] os1) (hn : -(2 ^ 62) ≤ m ∧ m < 2 ^ 62 ∧ -(2 ^ 62) ≤ n ∧ n < 2 ^ 62) (hg : Gl X "range" := by rfl) (hs : starEach [a, b] X.env = [(false, eval a X.env), (false, eval b X.env)] := by rfl) (hs2 : starEach [b] X.env = [(false, eval b X.env)] := by rfl) :
    Wk X M os δ tg (.Call (.Name "range" p) [a, b] [] pos) (rngD m (n - m).toNat) os1 :=
  pi_imp (pi_range2 hg hm h hs hs2) fun σ H Rq ⟨s, en, k⟩ => ⟨s, en, fun vs H1 k1 s1 r1 => by
    cases r1 with
    | cons r1 r2 =>
      cases r1
      cases r2 with
      | cons r2 r3 =>
        cases r2
        cases r3
        exact ⟨m, n, rfl, hn, k _ _ k1 s1 itOk_rng⟩⟩
end

/-! ### statements -/
section
variable {X : Cx} {M : List Addr} {os os1 os2 os3 : List MO} {δ δ' : List (Option D)} {a b c e tg : Expr} {pos p : Pos} {d : D} {ds : List D} {rest : List Stmt} {k : Kt}
theorem stm_nil {os' : List MO} (h : k.nx δ os') (dr : Drp M os k.mn os' := by first | exact Drp.refl | exact Drp.refl.cons) : Stm X M os δ [] k := pss_imp pss_nil fun Dn σ H ⟨s, en, n, r⟩ => n σ H δ os' .refl (dr.1 H s) (dr.en en) h
/-- what follows, from a later state -/
theorem tS_go {Dn : Ends} {σ1 : L2.St} {H H1 : Hp} {os' : List MO} (k1 : Keep M H H1) (s1 : Sok M os' H1) (e1 : EnvR M H1 σ1 δ')
    (n : ∀ σ' H' δ' os', Keep M H H' → Sok k.mn os' H' → EnvR k.mn H' σ' δ' → k.nx δ' os' → Dn.nx σ' H') (r : ∀ v d H' os', Keep M H H' → Sok k.mr os' H' → R k.mr H' v d → k.rt d os' → Dn.rt v H') : tS M os' δ' k Dn σ1 H1 :=
  ⟨s1, e1, fun σ' H' δ2 os2 k2 => n σ' H' δ2 os2 (k1.trans k2), fun v d H' os2 k2 => r v d H' os2 (k1.trans k2)⟩
theorem stm_set (i : Nat) {x : Str} {py : Pos} (he : Ev X M os δ e d os1) (hN : X.N.Nodup) (hr : Stm X M os1 (δ.set i (some d)) rest k) (hi : X.N[i]? = some x := by rfl) (hx : Loc X.env.scope x := by first | exact Or.inl rfl | exact Or.inr rfl)
    (hs : swapsWith e (some (.Name x py)) pos.line X.env = pure false := by rfl) (hf : X.fn x = true ∨ X.env.scope.names.lookup x = some .local := by first | exact .inl rfl | exact .inr rfl) : Stm X M os δ (.Assign [.Name x py] e pos :: rest) k :=
  pss_imp (pss_cons (ps_set hN hi hx he hs hf) hr) fun Dn σ H ⟨s, en, n, r⟩ => ⟨s, en, fun v H1 k1 s1 r1 => tS_go k1 s1 ((en.keep k1).set i r1) n r⟩
/-- a target of any form -/
theorem stm_asg {sl : List Nat} {φ} (he : Ev X M os δ e d os1) (hg : Tgt X M tg sl φ) (hφ : φ d δ = some δ') (hr : Stm X M os1 δ' rest k) (hs : swapsWithSole [tg] e pos.line X.env = pure false := by rfl) (hw : swappedStores [tg] e X.env = pure none := by rfl)
    (h1 : (assignEach [tg] X.env).map (·.2) = [assign tg X.env] := by rfl) : Stm X M os δ (.Assign [tg] e pos :: rest) k :=
  pss_imp (pss_cons (ps_asg he hg hs hw h1) hr) fun Dn σ H ⟨s, en, n, r⟩ => ⟨s, en, fun v H1 k1 s1 r1 => ⟨d, δ, δ', r1, en.keep k1, hφ, fun σ' e' _ => tS_go k1 s1 e' n r⟩⟩
theorem stm_par2 (i j : Nat) {x y : Str} {px py pt : Pos} {kt k2 : Nat} {pt2 : Pos} {d1 d2 : D} (ha : Arg X M os δ [a, b] [d1, d2] os1) (hc : X.calm = true) (hN : X.N.Nodup) (hr : Stm X M os1 ((δ.set i (some d1)).set j (some d2)) rest k) (hi : X.N[i]? = some x := by rfl) (hj : X.N[j]? = some y := by rfl) (hij : i ≠ j := by decide)
    (hx : X.env.scope.names.lookup x = some .local := by rfl) (hy : X.env.scope.names.lookup y = some .local := by rfl) (hw : swappedStores [.Tuple [.Name x px, .Name y py] kt pt] (.Tuple [a, b] k2 pt2) X.env = pure (some [x, y]) := by rfl)
    (hs : swapsWithSole [.Tuple [.Name x px, .Name y py] kt pt] (.Tuple [a, b] k2 pt2) pos.line X.env = pure false := by rfl) : Stm X M os δ (.Assign [.Tuple [.Name x px, .Name y py] kt pt] (.Tuple [a, b] k2 pt2) pos :: rest) k :=
  pss_imp (pss_cons (ps_par hc hN hi hj hij hx hy ha hw hs) hr) fun Dn σ H ⟨s, en, n, r⟩ => ⟨s, en, fun vs H1 k1 s1 r1 => by
    cases r1 with
    | cons r1 r2 =>
      cases r2 with
      | cons r2 r3 =>
        cases r3
        exact ⟨_, _, rfl, tS_go k1 s1 (((en.keep k1).set i r1).set j r2) n r⟩⟩
theorem stm_ret {os' : List MO} (he : Ev X M os δ e d os1) (h : k.rt d os') (dr : Drp M os1 k.mr os' := by first | exact Drp.refl | exact Drp.refl.cons) : Stm X M os δ (.Return (some e) pos :: rest) k :=
  pss_imp (pss_cons (ps_ret he) pss_never) fun Dn σ H ⟨s, en, n, r⟩ => ⟨s, en, fun v H1 k1 s1 r1 => r v d H1 os' k1 (dr.1 H1 s1) (dr.r r1) h⟩
theorem stm_expr (he : Ev X M os δ e d os1) (hr : Stm X M os1 δ rest k) (hs : swapsWith e none pos.line X.env = pure false := by rfl) : Stm X M os δ (.Expr e pos :: rest) k :=
  pss_imp (pss_cons (ps_expr he hs) hr) fun Dn σ H ⟨s, en, n, r⟩ => ⟨s, en, fun v H1 k1 s1 r1 => tS_go k1 s1 (en.keep k1) n r⟩
/-- if: both ways meet again by N -/
theorem stm_if {bl : Bool} {A B : List Stmt} (N : List (Option D) → List MO → Prop) (hc : Tst X M os δ c bl os1) (ha : bl = true → Stm X M os1 δ A ⟨M, k.mr, N, k.rt⟩) (hb : bl = false → Stm X M os1 δ B ⟨M, k.mr, N, k.rt⟩) (hr : ∀ δ' os', N δ' os' → Stm X M os' δ' rest k) : Stm X M os δ (.If c A B pos :: rest) k := by
  have hrest : PSs X rest (fun Dn σ H => ∃ δ' os', N δ' os' ∧ tS M os' δ' k Dn σ H) := ⟨fun pins s σ H Dn I ⟨δ', os', h, w⟩ => (hr δ' os' h).run pins s σ H Dn I w⟩
  cases bl with
  | true => exact pss_imp (pss_cons (ps_if hc (ha rfl) pss_never) hrest) fun Dn σ H ⟨s, en, n, r⟩ => ⟨s, en, fun H1 k1 s1 => iteT ⟨s1, en.keep k1, fun σ' H' δ' os' k2 s2 e2 w => ⟨δ', os', w, tS_go (k1.trans k2) s2 e2 n r⟩, fun v d H' os' k2 => r v d H' os' (k1.trans k2)⟩⟩
  | false => exact pss_imp (pss_cons (ps_if hc pss_never (hb rfl)) hrest) fun Dn σ H ⟨s, en, n, r⟩ => ⟨s, en, fun H1 k1 s1 => iteF ⟨s1, en.keep k1, fun σ' H' δ' os' k2 s2 e2 w => ⟨δ', os', w, tS_go (k1.trans k2) s2 e2 n r⟩, fun v d H' os' k2 => r v d H' os' (k1.trans k2)⟩⟩
/-- an if that returns where it is taken -/
theorem stm_ifR {bl : Bool} {A : List Stmt} (hc : Tst X M os δ c bl os1) (ha : bl = true → Stm X M os1 δ A ⟨M, k.mr, fun _ _ => False, k.rt⟩) (hr : bl = false → Stm X M os1 δ rest k) : Stm X M os δ (.If c A [] pos :: rest) k :=
  stm_if (fun δ' os' => bl = false ∧ δ' = δ ∧ os' = os1) hc (fun h => by
    have q := ha h
    exact pss_imp q fun Dn σ H ⟨s, en, n, r⟩ => ⟨s, en, fun σ' H' δ' os' k2 s2 e2 w => w.elim, r⟩) (fun h => stm_nil ⟨h, rfl, rfl⟩) fun δ' os' ⟨h, e1, e2⟩ => by
    subst e1 e2
    exact hr h
/-- an if that is not taken -/
theorem stm_ifF {A : List Stmt} (hc : Tst X M os δ c false os1) (hr : Stm X M os1 δ rest k) : Stm X M os δ (.If c A [] pos :: rest) k := stm_ifR hc (fun h => by cases h) fun _ => hr
/-- the last if of a block, both ways known -/
theorem stm_if1 {bl : Bool} {A B : List Stmt} (hc : Tst X M os δ c bl os1) (ha : bl = true → Stm X M os1 δ A k) (hb : bl = false → Stm X M os1 δ B k) : Stm X M os δ [.If c A B pos] k :=
  by
    cases bl with
    | true => exact pss_imp (pss_cons (ps_if hc (ha rfl) pss_never) pss_nil) fun Dn σ H ⟨s, en, n, r⟩ => ⟨s, en, fun H1 k1 s1 => iteT ⟨s1, en.keep k1, fun σ' H' δ' os' k2 s2 e2 w => n σ' H' δ' os' (k1.trans k2) s2 e2 w, fun v d H' os' k2 => r v d H' os' (k1.trans k2)⟩⟩
    | false => exact pss_imp (pss_cons (ps_if hc pss_never (hb rfl)) pss_nil) fun Dn σ H ⟨s, en, n, r⟩ => ⟨s, en, fun H1 k1 s1 => iteF ⟨s1, en.keep k1, fun σ' H' δ' os' k2 s2 e2 w => n σ' H' δ' os' (k1.trans k2) s2 e2 w, fun v d H' os' k2 => r v d H' os' (k1.trans k2)⟩⟩
theorem stm_pass (h : k.nx δ os) (e : k.mn = M := by rfl) : Stm X M os δ [.Pass pos] k := pss_imp (pss_one ps_pass) fun Dn σ H ⟨s, en, n, r⟩ => n σ H δ os .refl (by rw [e]; exact s) (by rw [e]; exact en) h
theorem stm_mono {nx nx' : List (Option D) → List MO → Prop} {rt rt' : D → List MO → Prop} {mn mr : List Addr} {sts : List Stmt} (h : Stm X M os δ sts ⟨mn, mr, nx, rt⟩) (hn : ∀ δ' os', nx δ' os' → nx' δ' os') (hr : ∀ d os', rt d os' → rt' d os') : Stm X M os δ sts ⟨mn, mr, nx', rt'⟩ :=
  pss_imp h fun Dn σ H ⟨s, en, n, r⟩ => ⟨s, en, fun σ' H' δ' os' k2 s2 e2 w => n σ' H' δ' os' k2 s2 e2 (hn _ _ w), fun v d H' os' k2 s2 r2 w => r v d H' os' k2 s2 r2 (hr _ _ w)⟩
theorem stm_for {iter : Expr} {body : List Stmt} {sl : List Nat} {φ} (hi : Wk X M os δ tg iter ds os1) (hg : Tgt X M tg sl φ) (J : Nat → List (Option D) → List MO → Prop) (h0 : J 0 δ os1)
    (turn : ∀ (i : Nat) d δ' os', ds[i]? = some d → J i δ' os' → ∃ δ2, φ d δ' = some δ2 ∧ Stm X M os' δ2 body ⟨M, k.mr, J (i + 1), k.rt⟩) (hr : ∀ δ' os', J ds.length δ' os' → Stm X M os' δ' rest k) (hp : PassesOwn (model X.prog X.w) X.A X.env X.xe) (hc : X.calm = true)
    (hs : ∀ x, foldedSetIterable iter X.env x = pure x := by intro _; rfl) : Stm X M os δ (.For tg iter body [] pos :: rest) k := by
  have hrest : PSs X rest (fun Dn σ H => ∃ δ' os', J ds.length δ' os' ∧ tS M os' δ' k Dn σ H) := ⟨fun pins s σ H Dn I ⟨δ', os', h, w⟩ => (hr δ' os' h).run pins s σ H Dn I w⟩
  have hbody : PSs X body (fun Dn σ H => ∃ (i : Nat) (d : D) (δ' : List (Option D)) (os' : List MO) (δ2 : List (Option D)), ds[i]? = some d ∧ J i δ' os' ∧ φ d δ' = some δ2 ∧ tS M os' δ2 ⟨M, k.mr, J (i + 1), k.rt⟩ Dn σ H) := ⟨fun pins s σ H Dn I ⟨i, d, δ', os', δ2, h1, h2, h3, w⟩ => by
    obtain ⟨δ3, e3, q⟩ := turn i d δ' os' h1 h2
    rw [h3] at e3
    cases e3
    exact q.run pins s σ H Dn I w⟩
  refine pss_imp (pss_cons (ps_for hp hc hi hg hbody hs) hrest) fun Dn σ H ⟨s, en, n, r⟩ => ⟨s, en, fun It H1 k1 s1 ok => ?_⟩
  refine ⟨fun i m σ' H' => m = ds.length - i ∧ i ≤ ds.length ∧ ∃ δ' os', Keep M H1 H' ∧ Sok M os' H' ∧ EnvR M H' σ' δ' ∧ J i δ' os', ⟨ds.length, by simp, Nat.zero_le _, δ, os1, .refl, s1, en.keep k1, h0⟩, ?_⟩
  rintro i m σ' H' ⟨rfl, hi, δ', os', k2, s2, e2, hJ⟩
  obtain ⟨go, stop⟩ := ok M (fun a _ h => h) (fun a h => h) i H' k2 s2.dom
  by_cases hl : i < ds.length
  · obtain ⟨g1, g2⟩ := go ds[i] (List.getElem?_eq_getElem hl)
    obtain ⟨δ2, q1, q2⟩ := turn i ds[i] δ' os' (List.getElem?_eq_getElem hl) hJ
    refine .inr ⟨g1, fun σ2 H2 => ∃ δ3 os3, Keep M H1 H2 ∧ Sok M os3 H2 ∧ EnvR M H2 σ2 δ3 ∧ J (i + 1) δ3 os3, fun σ2 H2 w => ⟨ds.length - (i + 1), by omega, rfl, hl, w⟩, fun x H2 y => ?_⟩
    obtain ⟨x1, x2⟩ := g2 x H2 y
    refine ⟨ds[i], δ', δ2, x2, e2.keep x1.keep, q1, fun σ3 e3 _ => ⟨i, ds[i], δ', os', δ2, List.getElem?_eq_getElem hl, hJ, q1, s2.ext x1, e3, fun σ4 H4 δ4 os4 k4 s4 e4 w => ⟨δ4, os4, (k2.trans x1.keep).trans k4, s4, e4, w⟩, fun v d H4 os4 k4 => ?_⟩⟩
    exact r v d H4 os4 (((k1.trans k2).trans x1.keep).trans k4)
  · have e : i = ds.length := by omega
    subst e
    exact .inl ⟨stop rfl, δ', os', hJ, tS_go (k1.trans k2) s2 e2 n r⟩
theorem stm_while {body : List Stmt} (J : Nat → List (Option D) → List MO → Prop) (m0 : Nat) (h0 : J m0 δ os)
    (turn : ∀ (m : Nat) δ' os', J m δ' os' → ∃ bl os2, Tst X M os' δ' c bl os2 ∧ (bl = true → Stm X M os2 δ' body ⟨M, k.mr, fun δ3 os3 => ∃ m', m' < m ∧ J m' δ3 os3, k.rt⟩) ∧ (bl = false → Stm X M os2 δ' rest k)) (hp : PassesOwn (model X.prog X.w) X.A X.env X.xe) : Stm X M os δ (.While c body [] pos :: rest) k := by
  have hcon : PT X c (fun σ H Q => ∃ m δ' os' bl os2, J m δ' os' ∧ Tst X M os' δ' c bl os2 ∧ tT M os' δ' bl os2 σ H Q) := ⟨fun pins s σ H Q I ⟨m, δ', os', bl, os2, h, t, w⟩ => t.run pins s σ H Q I w⟩
  have hrest : PSs X rest (fun Dn σ H => ∃ os2 δ', Stm X M os2 δ' rest k ∧ tS M os2 δ' k Dn σ H) := ⟨fun pins s σ H Dn I ⟨os2, δ', h, w⟩ => h.run pins s σ H Dn I w⟩
  have hbody : PSs X body (fun Dn σ H => ∃ m os2 δ', Stm X M os2 δ' body ⟨M, k.mr, fun δ3 os3 => ∃ m', m' < m ∧ J m' δ3 os3, k.rt⟩ ∧ tS M os2 δ' ⟨M, k.mr, fun δ3 os3 => ∃ m', m' < m ∧ J m' δ3 os3, k.rt⟩ Dn σ H) := ⟨fun pins s σ H Dn I ⟨m, os2, δ', h, w⟩ => h.run pins s σ H Dn I w⟩
  refine pss_imp (pss_cons (ps_while hp hcon hbody) hrest) fun Dn σ H ⟨s, en, n, r⟩ => ?_
  refine ⟨fun m σ' H' => ∃ δ' os', Keep M H H' ∧ Sok M os' H' ∧ EnvR M H' σ' δ' ∧ J m δ' os', ⟨m0, δ, os, .refl, s, en, h0⟩, ?_⟩
  rintro m σ' H' ⟨δ', os', k1, s1, e1, hJ⟩
  obtain ⟨bl, os2, t, ht, hf⟩ := turn m δ' os' hJ
  refine ⟨m, δ', os', bl, os2, hJ, t, s1, e1, fun H2 k2 s2 => ?_⟩
  cases bl with
  | true =>
    refine iteT ⟨fun σ3 H3 => ∃ m', m' < m ∧ ∃ δ3 os3, Keep M H H3 ∧ Sok M os3 H3 ∧ EnvR M H3 σ3 δ3 ∧ J m' δ3 os3, fun σ3 H3 ⟨m', h1, h2⟩ => ⟨m', h1, h2⟩, m, os2, δ', ht rfl, s2, e1.keep k2, fun σ4 H4 δ4 os4 k4 s4 e4 ⟨m', h1, h2⟩ => ⟨m', h1, δ4, os4, (k1.trans k2).trans k4, s4, e4, h2⟩, fun v d H4 os4 k4 => r v d H4 os4 ((k1.trans k2).trans k4)⟩
  | false => exact iteF ⟨os2, δ', hf rfl, tS_go (k1.trans k2) s2 (e1.keep k2) n r⟩
end

/-! ### lists made by a comprehension -/
section
variable {X : Cx} {M : List Addr} {os os1 os2 os3 : List MO} {δ δ' : List (Option D)} {e tg : Expr} {pos p : Pos} {k : Kt}
/-- the block's context -/
abbrev Cx.bk (X : Cx) (scope : Scope) (s : Shared) (H : Hp) (C : Addr) (cl : List (Str × Addr)) (fp : List Addr) : Cx := X.blk s H scope (compEnvC scope cl C X.env) fp
abbrev Tsts (X : Cx) (M : List Addr) (os : List MO) (δ : List (Option D)) (ifs : List Expr) (b : Bool) (os' : List MO) : Prop := PTs X ifs (tT M os δ b os')
theorem pts_imp {X : Cx} {e : List Expr} {t t' : TT} (h : PTs X e t) (hi : ∀ σ H Q, t' σ H Q → t σ H Q) : PTs X e t' := ⟨fun pins s σ H Q I w => h.run pins s σ H Q I (hi _ _ _ w)⟩
theorem tsts_nil : Tsts X M os δ [] true os := pts_imp pts_nil fun σ H Q ⟨s, en, k⟩ => k _ .refl s
theorem tsts_one {c : Expr} {b : Bool} (h : Tst X M os δ c b os1) : Tsts X M os δ [c] b os1 := pts_one h
theorem Keep.fill {M : List Addr} {H H' : Hp} {p : Addr} {o : HO} (hp : H p = none) (k : Keep (p :: M) (upd H p o) H') : Keep M H H' := ⟨fun a u n h => by
  have ne : a ≠ p := ne_of_none h hp
  exact k.old a u (fun z => by
    rcases List.mem_cons.mp z with z | z
    · exact ne z
    · exact n z) (by rw [upd_ne ne]; exact h), fun a h => k.dom a (by
  have ne : a ≠ p := fun z => h (z ▸ hp)
  rw [upd_ne ne]
  exact h)⟩
theorem Keep.fill0 {M : List Addr} {H H' : Hp} {p : Addr} (hp : H p = none) (k : Keep (p :: M) H H') : Keep M H H' := ⟨fun a u n h => k.old a u (fun z => by
  rcases List.mem_cons.mp z with z | z
  · exact ne_of_none h hp z
  · exact n z) h, k.dom⟩
theorem Keep.set {M : List Addr} {H : Hp} {a : Addr} {o : HO} (hm : a ∈ M) : Keep M H (upd H a o) := ⟨fun b u n h => by rw [upd_ne (fun z => n (by rw [z]; exact hm))]; exact h, fun b h => by
  by_cases e : b = a
  · subst e
    rw [upd_same]
    simp
  · rw [upd_ne e]
    exact h⟩
/-- the reading of a comprehension from its parts -/
theorem lc_data {α : Type} {iter elt : Expr} {ifs : List Expr} {scope : Scope} {vs sl : List Nat} {φ} (xs : List α) (enc : α → D) (p : α → Bool) (v : α → D) (hz : xs.length ≤ 100000) (hv : ∀ j ∈ sl, j ∈ vs)
    (hb : ∀ x ∈ xs, ∃ δ2, φ (enc x) (wipeD δ vs) = some δ2 ∧ ∀ (L : Addr) (acc : List D), (∀ s H C cl fp, Tsts (Cx.bk X scope s H C cl fp) (L :: M) (.lst acc :: os1) δ2 ifs (p x) (.lst acc :: os1)) ∧
      (p x = true → ∀ s H C cl fp, Ev (Cx.bk X scope s H C cl fp) (L :: M) (.lst acc :: os1) δ2 elt (v x) (.lst acc :: os1))) :
    ∃ (g : TG) (tt : TT) (te : TE), ((∀ L s H C cl fp, Tgt (Cx.bk X scope s H C cl fp) (L :: M) tg sl φ) → ∀ s H C cl fp, PG (Cx.bk X scope s H C cl fp) tg g) ∧ (∀ s H C cl fp, PTs (Cx.bk X scope s H C cl fp) ifs tt) ∧ (∀ s H C cl fp, PE (Cx.bk X scope s H C cl fp) elt te) ∧
      ∀ σ H Q, tE M os δ (.lst ((xs.filter p).map v)) os1 σ H Q → tLc (tI M os δ (xs.map enc) os1) g tt te vs σ H Q := by
  refine ⟨fun w σ H Q => ∃ L, gD (L :: M) sl φ w σ H Q, fun σ H Q => ∃ x δ2 L acc, x ∈ xs ∧ φ (enc x) (wipeD δ vs) = some δ2 ∧ tT (L :: M) (.lst acc :: os1) δ2 (p x) (.lst acc :: os1) σ H Q,
    fun σ H Q => ∃ x δ2 L acc, x ∈ xs ∧ p x = true ∧ φ (enc x) (wipeD δ vs) = some δ2 ∧ tE (L :: M) (.lst acc :: os1) δ2 (v x) (.lst acc :: os1) σ H Q,
    fun hg s H C cl fp => ⟨fun pins s1 σ H1 w u Q I r ⟨L, h⟩ => (hg L s H C cl fp).run pins s1 σ H1 w u Q I r h⟩, fun s H C cl fp => ⟨fun pins s1 σ H1 Q I ⟨x, δ2, L, acc, hx, hφ, h⟩ => ?_⟩, fun s H C cl fp => ⟨fun pins s1 σ H1 Q I ⟨x, δ2, L, acc, hx, hp, hφ, h⟩ => ?_⟩, ?_⟩
  · obtain ⟨δ3, e3, q⟩ := hb x hx
    rw [hφ] at e3
    cases e3
    exact ((q L acc).1 s H C cl fp).run pins s1 σ H1 Q I h
  · obtain ⟨δ3, e3, q⟩ := hb x hx
    rw [hφ] at e3
    cases e3
    exact ((q L acc).2 hp s H C cl fp).run pins s1 σ H1 Q I h
  · rintro σ H Q ⟨s, en, kq⟩
    refine ⟨s, en, fun J H1 k1 s1 ok L hL => ?_⟩
    have hdL : ∀ a, H1 a ≠ none → a ∉ M → a ∉ L :: M := fun a ha hn z => by
      rcases List.mem_cons.mp z with z | z
      · exact ha (z ▸ hL)
      · exact hn z
    have okL := ok (L :: M) hdL fun a h => List.mem_cons_of_mem _ h
    have sL : Sok (L :: M) (.lst [] :: os1) (upd H1 L (.lst [])) := s1.more hL (Ext.new hL) ⟨[], upd_same, .nil⟩
    have enL : EnvR (L :: M) (upd H1 L (.lst [])) σ δ := ((en.keep k1).more hL).keep (Ext.new hL).keep
    refine ⟨fun i m H2 => m = xs.length - i ∧ i ≤ xs.length ∧ Keep (L :: M) (upd H1 L (.lst [])) H2 ∧ Sok (L :: M) (.lst (((xs.take i).filter p).map v) :: os1) H2, ⟨xs.length, by simp, Nat.zero_le _, .refl, by simpa using sL⟩, ?_⟩
    rintro i m H2 ⟨rfl, hi, k2, s2⟩
    have k0 : Keep (L :: M) H1 H2 := Keep.trans (Ext.new hL).keep k2
    obtain ⟨go, stop⟩ := okL i H2 k0 s2.dom
    by_cases hl : i < xs.length
    · have hx : xs[i] ∈ xs := List.getElem_mem hl
      have hdx : (xs.map enc)[i]? = some (enc xs[i]) := by rw [List.getElem?_map, List.getElem?_eq_getElem hl] <;> rfl
      obtain ⟨g1, g2⟩ := go (enc xs[i]) hdx
      obtain ⟨δ2, q1, q2⟩ := hb xs[i] hx
      have htk : xs.take (i + 1) = xs.take i ++ [xs[i]] := by rw [List.take_add_one, List.getElem?_eq_getElem hl] <;> rfl
      refine .inr ⟨g1, fun H3 => Keep (L :: M) (upd H1 L (.lst [])) H3 ∧ Sok (L :: M) (.lst (((xs.take (i + 1)).filter p).map v) :: os1) H3, fun H3 w => ⟨xs.length - (i + 1), by omega, rfl, hl, w⟩, fun x H3 y => ?_⟩
      obtain ⟨x1, x2⟩ := g2 x H3 y
      have en3 : EnvR (L :: M) H3 (L2.wipe σ vs) (wipeD δ vs) := ((enL.keep k2).keep x1.keep).wipe vs
      refine ⟨L, enc xs[i], wipeD δ vs, δ2, x2, en3, q1, fun σ4 e4 w4 => ⟨?_, xs[i], δ2, L, ((xs.take i).filter p).map v, hx, q1, s2.ext x1, e4, fun H4 k4 s4 => ?_⟩⟩
      · rw [w4 vs hv]
        have idem : ∀ (ws : List Nat) (τ : L2.St), L2.wipe (L2.wipe τ ws) ws = L2.wipe τ ws := by
          intro ws τ
          have gen : ∀ (us ws : List Nat) (τ : L2.St), (∀ j ∈ us, j ∈ ws) → L2.wipe (L2.wipe τ us) ws = L2.wipe τ ws := by
            intro us
            induction us with
            | nil => intro ws τ _; rfl
            | cons u us ih =>
              intro ws τ h
              show L2.wipe ((L2.wipe τ us).set u none) ws = L2.wipe τ ws
              rw [wipe_set (h u List.mem_cons_self), ih ws τ fun j hj => h j (List.mem_cons_of_mem _ hj)]
          exact gen ws ws τ fun j h => h
        exact idem vs σ
      · cases hp : p xs[i] with
        | false =>
          refine iteF ⟨(k2.trans x1.keep).trans k4, ?_⟩
          rw [htk, List.filter_append, List.filter_cons, hp, List.filter_nil]
          simpa using s4
        | true =>
          refine iteT ⟨xs[i], δ2, L, ((xs.take i).filter p).map v, hx, hp, q1, s4, e4.keep k4, fun y4 H5 k5 s5 r5 => ?_⟩
          obtain ⟨ys, h5, r6⟩ := s5.at_ 0 L (.lst (((xs.take i).filter p).map v)) rfl rfl
          have hlen : ys.length ≤ xs.length := by
            rw [r6.length, List.length_map]
            refine Nat.le_trans (List.length_filter_le _ _) ?_
            rw [List.length_take]
            omega
          have kS : Keep (L :: M) H5 (upd H5 L (.lst (ys ++ [y4]))) := Keep.set List.mem_cons_self
          refine ⟨ys, h5, by rw [sizeLine_eq]; omega, (((k2.trans x1.keep).trans k4).trans k5).trans kS, ?_⟩
          have e6 : ((xs.take (i + 1)).filter p).map v = ((xs.take i).filter p).map v ++ [v xs[i]] := by
            rw [htk, List.filter_append, List.filter_cons, hp, List.filter_nil, List.map_append] <;> rfl
          rw [e6]
          have := s5.put (i := 0) (a := L) (o := .lst (((xs.take i).filter p).map v ++ [v xs[i]])) rfl kS (fun b hb _ => upd_ne hb) ⟨ys ++ [y4], upd_same, (r6.append (.cons r5 .nil)).keep kS⟩
          exact this
    · have e : i = xs.length := by omega
      subst e
      rw [List.take_length] at s2
      obtain ⟨ys, h5, r6⟩ := s2.at_ 0 L (.lst ((xs.filter p).map v)) rfl rfl
      refine .inl ⟨stop (by rw [List.length_map]), kq _ _ (k1.trans (Keep.fill hL k2)) s2.less (.lst h5 (not_mem_dom s1.dom hL) (r6.sub fun b _ n z => n (List.mem_cons_of_mem _ z)))⟩
theorem ev_lc {α : Type} {iter elt : Expr} {ifs : List Expr} {scope : Scope} {own : List (Str × Nat)} {sl : List Nat} {φ} (xs : List α) (enc : α → D) (p : α → Bool) (v : α → D) (hi : Wk X M os δ tg iter (xs.map enc) os1) (ok : BlkOk X.N X.env.scope scope own)
    (hg : ∀ L s H C cl fp, Tgt (Cx.bk X scope s H C cl fp) (L :: M) tg sl φ) (hb : ∀ x ∈ xs, ∃ δ2, φ (enc x) (wipeD δ (own.map (·.2))) = some δ2 ∧ ∀ (L : Addr) (acc : List D), (∀ s H C cl fp, Tsts (Cx.bk X scope s H C cl fp) (L :: M) (.lst acc :: os1) δ2 ifs (p x) (.lst acc :: os1)) ∧
      (p x = true → ∀ s H C cl fp, Ev (Cx.bk X scope s H C cl fp) (L :: M) (.lst acc :: os1) δ2 elt (v x) (.lst acc :: os1))) (hz : xs.length ≤ 100000) (hc : X.calm = true) (hN : X.N.Nodup) (hv : ∀ j ∈ sl, j ∈ own.map (·.2) := by decide) (hs : ∀ x, foldedSetIterable iter X.env x = pure x := by intro _; rfl) :
    Ev X M os δ (.ListComp elt [⟨tg, iter, ifs, 0⟩] scope pos) (.lst ((xs.filter p).map v)) os1 := by
  obtain ⟨g, tt, te, h1, h2, h3, h4⟩ := lc_data (X := X) (M := M) (os := os) (os1 := os1) (δ := δ) (tg := tg) (iter := iter) (elt := elt) (ifs := ifs) (scope := scope) xs enc p v hz hv hb
  exact pe_imp (pe_lc hc hN hi ok (h1 hg) h2 h3 hs) h4
/-- y = [..] where y is a plain local on the comprehension's line -/
theorem stm_setLc (i : Nat) {y : Str} {py : Pos} {spos : Pos} {rest : List Stmt} {α : Type} {iter elt : Expr} {ifs : List Expr} {scope : Scope} {own : List (Str × Nat)} {sl : List Nat} {φ} (xs : List α) (enc : α → D) (p : α → Bool) (v : α → D) (hi : Wk X M os δ tg iter (xs.map enc) os1) (ok : BlkOk X.N X.env.scope scope own)
    (hg : ∀ L s H C cl fp, Tgt (Cx.bk X scope s H C cl fp) (L :: M) tg sl φ) (hb : ∀ x ∈ xs, ∃ δ2, φ (enc x) (wipeD δ (own.map (·.2))) = some δ2 ∧ ∀ (L : Addr) (acc : List D), (∀ s H C cl fp, Tsts (Cx.bk X scope s H C cl fp) (L :: M) (.lst acc :: os1) δ2 ifs (p x) (.lst acc :: os1)) ∧
      (p x = true → ∀ s H C cl fp, Ev (Cx.bk X scope s H C cl fp) (L :: M) (.lst acc :: os1) δ2 elt (v x) (.lst acc :: os1))) (hz : xs.length ≤ 100000) (hc : X.calm = true) (hN : X.N.Nodup) (hr : Stm X M os1 (δ.set i (some (.lst ((xs.filter p).map v)))) rest k)
    (hy : X.N[i]? = some y := by rfl) (hyl : X.env.scope.names.lookup y = some .local := by rfl) (hsw : swapsWith (.ListComp elt [⟨tg, iter, ifs, 0⟩] scope pos) (some (.Name y py)) spos.line X.env = pure true := by exact sw_true rfl rfl rfl (by decide +kernel)) (hv : ∀ j ∈ sl, j ∈ own.map (·.2) := by decide) (hs : ∀ x, foldedSetIterable iter X.env x = pure x := by intro _; rfl) :
    Stm X M os δ (.Assign [.Name y py] (.ListComp elt [⟨tg, iter, ifs, 0⟩] scope pos) spos :: rest) k := by
  obtain ⟨g, tt, te, h1, h2, h3, h4⟩ := lc_data (X := X) (M := M) (os := os) (os1 := os1) (δ := δ) (tg := tg) (iter := iter) (elt := elt) (ifs := ifs) (scope := scope) xs enc p v hz hv hb
  exact pss_imp (pss_cons (ps_setLc hc hN hy hyl hsw hi ok (h1 hg) h2 h3 hs) hr) fun Dn σ H ⟨s, en, n, r⟩ => h4 σ H _ ⟨s, en, fun w H1 k1 s1 r1 => tS_go k1 s1 ((en.keep k1).set i r1) n r⟩
end
end PW
namespace PW
open PySem PySem.Spec PyProof.Rows L2

/-! ### data as the library's data -/
mutual
def pdD : D → PyData
  | .bl b => .bool b
  | .int i => .int i
  | .str x => .str x
  | .tup ds => .tuple (pdA ds)
  | .lst ds => .list (pdA ds)
  | _ => .none
def pdA : List D → List PyData
  | [] => []
  | d :: ds => pdD d :: pdA ds
end
mutual
/-- plain data, so deep at most -/
def okD : Nat → D → Bool
  | _, .non => true
  | _, .bl _ => true
  | _, .int _ => true
  | _, .str x => PyData.canLay0 (.str x)
  | n + 1, .tup ds => okA n ds
  | n + 1, .lst ds => okA n ds
  | _, _ => false
def okA : Nat → List D → Bool
  | _, [] => true
  | n, d :: ds => okD n d && okA n ds
end
mutual
theorem okD_dp {K : PySem.W.Frag} {M : List Addr} {H : Hp} : ∀ (n : Nat) (d : D) (v : V), okD n d = true → R M H v d → Dp K H v (pdD d) ∧ (pdD d).canLay0 = true ∧ (pdD d).depth ≤ n
  | n, .non, _, _, r => by
    cases r
    exact ⟨.non, rfl, by simp [pdD, PyData.depth]⟩
  | n, .bl b, _, _, r => by
    cases r
    exact ⟨.bl b, rfl, by simp [pdD, PyData.depth]⟩
  | n, .int i, _, _, r => by
    cases r
    exact ⟨.int i, rfl, by simp [pdD, PyData.depth]⟩
  | n, .str x, _, h, r => by
    cases r
    refine ⟨.str x, ?_, by simp [pdD, PyData.depth]⟩
    cases n <;> exact h
  | n + 1, .tup ds, _, h, r => by
    cases r with
    | tup h1 hm hr =>
      obtain ⟨q1, q2, q3⟩ := okA_dp (K := K) n ds _ (by simpa [okD] using h) hr
      exact ⟨.tup (.inl (.of h1)) q1, by simpa [pdD, PyData.canLay0] using q2, by simp [pdD, PyData.depth]; omega⟩
  | n + 1, .lst ds, _, h, r => by
    cases r with
    | lst h1 hm hr =>
      obtain ⟨q1, q2, q3⟩ := okA_dp (K := K) n ds _ (by simpa [okD] using h) hr
      exact ⟨.lst (.inl (.of h1)) q1, by simpa [pdD, PyData.canLay0] using q2, by simp [pdD, PyData.depth]; omega⟩
  | 0, .tup ds, _, h, _ => by simp [okD] at h
  | 0, .lst ds, _, h, _ => by simp [okD] at h
  | 0, .dic ks ds, _, h, _ => by simp [okD] at h
  | n + 1, .dic ks ds, _, h, _ => by simp [okD] at h
  | 0, .adr a, _, h, _ => by simp [okD] at h
  | n + 1, .adr a, _, h, _ => by simp [okD] at h
  | 0, .ty a, _, h, _ => by simp [okD] at h
  | n + 1, .ty a, _, h, _ => by simp [okD] at h
theorem okA_dp {K : PySem.W.Frag} {M : List Addr} {H : Hp} : ∀ (n : Nat) (ds : List D) (vs : List V), okA n ds = true → RA M H vs ds → DpAll K H vs (pdA ds) ∧ PyData.canLayAll0 (pdA ds) = true ∧ PyData.depthAll (pdA ds) ≤ n
  | n, [], _, _, r => by
    cases r
    exact ⟨.nil, by simp [pdA, PyData.canLayAll0], by simp [pdA, PyData.depthAll]⟩
  | n, d :: ds, _, h, r => by
    cases r with
    | cons r1 r2 =>
      have h' : okD n d = true ∧ okA n ds = true := by simpa [okA] using h
      obtain ⟨a1, a2, a3⟩ := okD_dp (K := K) n d _ h'.1 r1
      obtain ⟨b1, b2, b3⟩ := okA_dp (K := K) n ds _ h'.2 r2
      exact ⟨.cons a1 b1, by simp [pdA, PyData.canLayAll0, a2, b2], by simp [pdA, PyData.depthAll]; omega⟩
end
theorem okD_shaped {K : PySem.W.Frag} {M : List Addr} {H : Hp} {n : Nat} {d : D} {v : V} (h : okD n d = true) (hn : n ≤ 64) (r : R M H v d) : Dp K H v (pdD d) ∧ SeqAt.shaped (pdD d) = true := by
  obtain ⟨a, b, c⟩ := okD_dp (K := K) n d v h r
  exact ⟨a, by unfold SeqAt.shaped; rw [b, decide_eq_true (by omega)] <;> rfl⟩
theorem okA_all {n : Nat} : ∀ {ds : List D}, (∀ d ∈ ds, okD n d = true) → okA n ds = true
  | [], _ => by simp [okA]
  | d :: ds, h => by simp [okA, h d (by simp), okA_all (ds := ds) fun e he => h e (List.mem_cons_of_mem _ he)]
theorem okA_map {α : Type} {n : Nat} {f : α → D} {xs : List α} (h : ∀ x ∈ xs, okD n (f x) = true) : okA n (xs.map f) = true := okA_all fun d hd => by
  obtain ⟨x, hx, rfl⟩ := List.mem_map.mp hd
  exact h x hx
def eqD (d e : D) : Bool := PyData.eqv (pdD d) (pdD e)
theorem pdA_map {α : Type} (f : α → D) : ∀ xs : List α, pdA (xs.map f) = xs.map fun x => pdD (f x)
  | [] => rfl
  | x :: xs => by rw [List.map_cons, List.map_cons, pdA, pdA_map f xs]
theorem eqvAll_ints : ∀ ns ms : List Int, PyData.eqvAll (ns.map PyData.int) (ms.map PyData.int) = decide (ns = ms)
  | [], [] => by simp [PyData.eqvAll]
  | [], _ :: _ => by simp [PyData.eqvAll]
  | _ :: _, [] => by simp [PyData.eqvAll]
  | n :: ns, m :: ms => by
    rw [List.map_cons, List.map_cons, PyData.eqvAll, PyData.eqv, eqvAll_ints ns ms]
    by_cases h : n = m <;> simp [h]
theorem eqD_intsT (ns ms : List Int) : eqD (.tup (ns.map D.int)) (.tup (ms.map D.int)) = decide (ns = ms) := by
  unfold eqD
  rw [pdD, pdD, PyData.eqv, pdA_map, pdA_map]
  exact eqvAll_ints ns ms
theorem eqD_intsL (ns ms : List Int) : eqD (.lst (ns.map D.int)) (.lst (ms.map D.int)) = decide (ns = ms) := by
  unfold eqD
  rw [pdD, pdD, PyData.eqv, pdA_map, pdA_map]
  exact eqvAll_ints ns ms
theorem eqD_nilT (ds : List D) : eqD (.tup ds) (.tup []) = ds.isEmpty := by
  unfold eqD
  cases ds <;> simp [pdD, pdA, PyData.eqv, PyData.eqvAll]
theorem eqD_nilL (ds : List D) : eqD (.lst ds) (.lst []) = ds.isEmpty := by
  unfold eqD
  cases ds <;> simp [pdD, pdA, PyData.eqv, PyData.eqvAll]
section
variable {X : Cx} {M : List Addr} {os os1 os2 os3 : List MO} {δ : List (Option D)} {a b c e : Expr} {pos p : Pos} {d da db : D} {j n : Nat}
theorem c_eqD (hr : Room j X.A) (h1 : okD n da = true) (h2 : okD n db = true) (hn : n ≤ 64 := by decide) : Cmp X M os .Eq da db (eqD da db) := ⟨_, op_eqD hr.units, fun x y H Q _ r1 r2 q => by
  obtain ⟨a1, a2⟩ := okD_shaped (K := X.K) h1 hn r1
  obtain ⟨b1, b2⟩ := okD_shaped (K := X.K) h2 hn r2
  exact ⟨_, _, a1, b1, a2, b2, q⟩⟩
theorem c_neD (hr : Room j X.A) (h1 : okD n da = true) (h2 : okD n db = true) (hn : n ≤ 64 := by decide) : Cmp X M os .NotEq da db (!eqD da db) := ⟨_, op_neD hr.units, fun x y H Q _ r1 r2 q => by
  obtain ⟨a1, a2⟩ := okD_shaped (K := X.K) h1 hn r1
  obtain ⟨b1, b2⟩ := okD_shaped (K := X.K) h2 hn r2
  exact ⟨_, _, a1, b1, a2, b2, q⟩⟩
/-- t < u of tuples of ints -/
theorem R.intsT {H : Hp} {x : V} {ns : List Int} (r : R M H x (.tup (ns.map D.int))) : ∃ a, x = .ref a ∧ H a = some (.tup (ns.map V.int)) := by
  cases r with
  | @tup a xs _ h1 hm hr =>
    refine ⟨a, rfl, ?_⟩
    have : ∀ (ns : List Int) (xs : List V), RA M H xs (ns.map D.int) → xs = ns.map V.int := by
      intro ns
      induction ns with
      | nil =>
        intro xs h
        cases h
        rfl
      | cons n ns ih =>
        intro xs h
        cases h with
        | cons h1 h2 =>
          cases h1
          rw [List.map_cons, ih _ h2]
    rw [h1, this ns xs hr]
theorem RA.ints {H : Hp} : ∀ {xs : List V} {ns : List Int}, RA M H xs (ns.map D.int) → xs = ns.map V.int
  | _, [], h => by
    cases h
    rfl
  | _, n :: ns, h => by
    cases h with
    | cons h1 h2 =>
      cases h1
      rw [List.map_cons, RA.ints h2]
theorem RA.bls {H : Hp} : ∀ {xs : List V} {ns : List Bool}, RA M H xs (ns.map D.bl) → xs = ns.map V.bl
  | _, [], h => by
    cases h
    rfl
  | _, n :: ns, h => by
    cases h with
    | cons h1 h2 =>
      cases h1
      rw [List.map_cons, RA.bls h2]
theorem c_ltT (hr : Room j X.A) {ns ms : List Int} (h1 : da = .tup (ns.map D.int)) (h2 : db = .tup (ms.map D.int)) : Cmp X M os .Lt da db (HT.lexLt ns ms) := ⟨_, op_ltT hr.units0, fun x y H Q _ r1 r2 q => by
  subst h1 h2
  obtain ⟨a, rfl, ha⟩ := r1.intsT
  obtain ⟨b, rfl, hb⟩ := r2.intsT
  exact ⟨a, b, ns, ms, rfl, rfl, .inl (.of ha), .inl (.of hb), q⟩⟩

/-! ### in, not in -/
def flatD : D → Bool
  | .non => true
  | .bl _ => true
  | .int _ => true
  | .str _ => true
  | _ => false
def toV : D → V
  | .bl b => .bl b
  | .int i => .int i
  | .str x => .str x
  | _ => .non
theorem R.flat {H : Hp} {x : V} (h : flatD d = true) (r : R M H x d) : x = toV d ∧ flatV x = true := by cases r <;> first | exact ⟨rfl, rfl⟩ | (cases h)
theorem RA.flat {H : Hp} : ∀ {xs : List V} {ds : List D}, ds.all flatD = true → RA M H xs ds → xs = ds.map toV ∧ xs.all flatV = true
  | _, _, _, .nil => ⟨rfl, rfl⟩
  | _, _, h, .cons r t => by
    rw [List.all_cons, Bool.and_eq_true] at h
    obtain ⟨h1, h2⟩ := r.flat h.1
    obtain ⟨h3, h4⟩ := RA.flat h.2 t
    subst h1
    exact ⟨by rw [List.map_cons, ← h3], by rw [List.all_cons, h2, h4] <;> rfl⟩
def inD (d : D) (ds : List D) : Bool := inV (toV d) (ds.map toV)
theorem c_inT {ds : List D} (h1 : flatD da = true) (h2 : ds.all flatD = true) : Cmp X M os .In da (.tup ds) (inD da ds) := ⟨_, op_in_seq, fun x y H Q _ r1 r2 q => by
  obtain ⟨rfl, f1⟩ := r1.flat h1
  cases r2 with
  | @tup p xs _ hp hm hr =>
    obtain ⟨rfl, f2⟩ := hr.flat h2
    exact ⟨p, _, rfl, .inr (.inl (.of hp)), f1, f2, q⟩⟩
theorem c_ninT {ds : List D} (h1 : flatD da = true) (h2 : ds.all flatD = true) : Cmp X M os .NotIn da (.tup ds) (!inD da ds) := ⟨_, op_notIn_seq, fun x y H Q _ r1 r2 q => by
  obtain ⟨rfl, f1⟩ := r1.flat h1
  cases r2 with
  | @tup p xs _ hp hm hr =>
    obtain ⟨rfl, f2⟩ := hr.flat h2
    exact ⟨p, _, rfl, .inr (.inl (.of hp)), f1, f2, q⟩⟩
/-- an object of the module: a tuple of flat items -/
theorem c_inA {p : Addr} {xs : List V} (h1 : flatD da = true) (h2 : ∀ H, SqT X.K H p xs) (h3 : xs.all flatV = true) : Cmp X M os .In da (.adr p) (inV (toV da) xs) := ⟨_, op_in_seq, fun x y H Q _ r1 r2 q => by
  obtain ⟨rfl, f1⟩ := r1.flat h1
  cases r2
  exact ⟨p, _, rfl, .inr (h2 H), f1, h3, q⟩⟩

/-! ### built-ins -/
/-- a built-in's answer on data -/
def Blt (X : Cx) (M : List Addr) (os : List MO) (u : Value) (ds : List D) (d : D) : Prop := ∃ r : List V → Hp → VK → Prop, CallR X u r ∧ ∀ (vs : List V) (H : Hp) (Q : VK), Sok M os H → RA M H vs ds → (∀ v H', Ext H H' → R M H' v d → Q v H') → r vs H Q
theorem ev_bi {x : Str} {id : String} {es : List Expr} {ds : List D} (hc : Blt X M os1 (.builtin id) ds d) (hm : X.mg x = none) (hv : bootBuiltins x = some (.builtin id)) (ha : Arg X M os δ (e :: es) ds os1) (hg : Gl X x := by rfl) (hn : x ≠ "__name__" := by decide) (hdb : (x == ("__debug__" : Str)) = false := by decide)
    (he : starEach (e :: es) X.env = (false, eval e X.env) :: starEach es X.env := by rfl) (hpl : (backTo pos (starEach es X.env)).any (·.1) = false := by rfl) : Ev X M os δ (.Call (.Name x p) (e :: es) [] pos) d os1 := by
  obtain ⟨r, hc, hr⟩ := hc
  exact pe_imp (pe_callB hc hg hm hv ha hn hdb he hpl) fun σ H Q ⟨s, en, k⟩ => ⟨s, en, fun vs H1 k1 s1 r1 => hr vs H1 Q s1 r1 fun v H2 e2 r2 => k v H2 (k1.trans e2.keep) (s1.ext e2) r2⟩
theorem ev_bt {x : Str} {T : String} {es : List Expr} {ds : List D} (hc : Blt X M os1 (.type T) ds d) (hm : X.mg x = none) (hv : bootBuiltins x = some (.type T)) (ha : Arg X M os δ (e :: es) ds os1) (hg : Gl X x := by rfl) (hn : x ≠ "__name__" := by decide) (hdb : (x == ("__debug__" : Str)) = false := by decide)
    (he : starEach (e :: es) X.env = (false, eval e X.env) :: starEach es X.env := by rfl) (hpl : (backTo pos (starEach es X.env)).any (·.1) = false := by rfl) : Ev X M os δ (.Call (.Name x p) (e :: es) [] pos) d os1 := by
  obtain ⟨r, hc, hr⟩ := hc
  exact pe_imp (pe_callTy hc hg hm hv ha hn hdb he hpl) fun σ H Q ⟨s, en, k⟩ => ⟨s, en, fun vs H1 k1 s1 r1 => hr vs H1 Q s1 r1 fun v H2 e2 r2 => k v H2 (k1.trans e2.keep) (s1.ext e2) r2⟩
theorem RA.one {H : Hp} {vs : List V} (r : RA M H vs [d]) : ∃ v, vs = [v] ∧ R M H v d := by
  cases r with
  | cons h t =>
    cases t
    exact ⟨_, rfl, h⟩
theorem RA.two {H : Hp} {vs : List V} (r : RA M H vs [da, db]) : ∃ v u, vs = [v, u] ∧ R M H v da ∧ R M H u db := by
  cases r with
  | cons h t =>
    cases t with
    | cons h2 t2 =>
      cases t2
      exact ⟨_, _, rfl, h, h2⟩
theorem b_lenT {ds : List D} : Blt X M os (.builtin "len") [.tup ds] (.int ds.length) := ⟨_, call_len_seq, fun vs H Q s r k => by
  obtain ⟨v, rfl, r1⟩ := r.one
  cases r1 with
  | @tup a xs _ h1 hm hr => exact ⟨a, xs, rfl, .inr (.inl (.of h1)), k _ _ .refl (by rw [hr.length]; exact .int _)⟩⟩
theorem b_lenL {ds : List D} : Blt X M os (.builtin "len") [.lst ds] (.int ds.length) := ⟨_, call_len_seq, fun vs H Q s r k => by
  obtain ⟨v, rfl, r1⟩ := r.one
  cases r1 with
  | @lst a xs _ h1 hm hr => exact ⟨a, xs, rfl, .inl (.inl (.of h1)), k _ _ .refl (by rw [hr.length]; exact .int _)⟩⟩
theorem b_tupL {ds : List D} : Blt X M os (.type "tuple") [.lst ds] (.tup ds) := ⟨_, call_tuple_of, fun vs H Q s r k => by
  obtain ⟨v, rfl, r1⟩ := r.one
  cases r1 with
  | @lst a xs _ h1 hm hr => exact ⟨a, xs, rfl, .inl ⟨.inl (.of h1), fun l hl => k _ _ (Ext.new hl) (new_tup s hl hr)⟩⟩⟩
theorem b_tupT {ds : List D} : Blt X M os (.type "tuple") [.tup ds] (.tup ds) := ⟨_, call_tuple_of, fun vs H Q s r k => by
  obtain ⟨v, rfl, r1⟩ := r.one
  cases r1 with
  | @tup a xs _ h1 hm hr => exact ⟨a, xs, rfl, .inr ⟨.inl (.of h1), k _ _ .refl (.tup h1 hm hr)⟩⟩⟩
theorem b_lstT {ds : List D} : Blt X M os (.type "list") [.tup ds] (.lst ds) := ⟨_, call_list_of, fun vs H Q s r k => by
  obtain ⟨v, rfl, r1⟩ := r.one
  cases r1 with
  | @tup a xs _ h1 hm hr => exact ⟨a, xs, rfl, .inr (.inl (.of h1)), fun l hl => k _ _ (Ext.new hl) (new_lst s hl hr)⟩⟩
theorem b_lstL {ds : List D} : Blt X M os (.type "list") [.lst ds] (.lst ds) := ⟨_, call_list_of, fun vs H Q s r k => by
  obtain ⟨v, rfl, r1⟩ := r.one
  cases r1 with
  | @lst a xs _ h1 hm hr => exact ⟨a, xs, rfl, .inl (.inl (.of h1)), fun l hl => k _ _ (Ext.new hl) (new_lst s hl hr)⟩⟩
theorem b_intI {i : Int} : Blt X M os (.type "int") [.int i] (.int i) := ⟨_, call_int1, fun vs H Q s r k => by
  obtain ⟨v, rfl, r1⟩ := r.one
  cases r1
  exact .inl ⟨i, rfl, k _ _ .refl (.int i)⟩⟩
theorem b_all {bs : List Bool} (hc : X.calm = true) : Blt X M os (.builtin "all") [.lst (bs.map D.bl)] (.bl (bs.all id)) := ⟨_, cr_all hc, fun vs H Q s r k => by
  obtain ⟨v, rfl, r1⟩ := r.one
  cases r1 with
  | @lst a xs _ h1 hm hr =>
    rw [hr.bls] at h1
    exact ⟨a, bs, rfl, .inl (.of h1), k _ _ .refl (.bl _)⟩⟩
def maxL : List Int → Int
  | [] => 0
  | [x] => x
  | x :: y :: r => max x (maxL (y :: r))
def minL : List Int → Int
  | [] => 0
  | [x] => x
  | x :: y :: r => min x (minL (y :: r))
theorem maxL_mem : ∀ {ns : List Int}, ns ≠ [] → maxL ns ∈ ns
  | [], h => absurd rfl h
  | [x], _ => by simp [maxL]
  | x :: y :: r, _ => by
    have ih := maxL_mem (ns := y :: r) (by simp)
    unfold maxL
    by_cases h : x ≤ maxL (y :: r)
    · rw [Int.max_eq_right h]
      exact List.mem_cons_of_mem _ ih
    · rw [Int.max_eq_left (by omega)]
      exact List.mem_cons_self
theorem maxL_le : ∀ {ns : List Int} {x : Int}, x ∈ ns → x ≤ maxL ns
  | [], x, h => by simp at h
  | [y], x, h => by
    simp at h
    subst h
    exact Int.le_refl _
  | y :: z :: r, x, h => by
    unfold maxL
    rcases List.mem_cons.mp h with h | h
    · subst h
      exact Int.le_max_left ..
    · exact Int.le_trans (maxL_le h) (Int.le_max_right ..)
theorem minL_mem : ∀ {ns : List Int}, ns ≠ [] → minL ns ∈ ns
  | [], h => absurd rfl h
  | [x], _ => by simp [minL]
  | x :: y :: r, _ => by
    have ih := minL_mem (ns := y :: r) (by simp)
    unfold minL
    by_cases h : x ≤ minL (y :: r)
    · rw [Int.min_eq_left h]
      exact List.mem_cons_self
    · rw [Int.min_eq_right (by omega)]
      exact List.mem_cons_of_mem _ ih
theorem minL_le : ∀ {ns : List Int} {x : Int}, x ∈ ns → minL ns ≤ x
  | [], x, h => by simp at h
  | [y], x, h => by
    simp at h
    subst h
    exact Int.le_refl _
  | y :: z :: r, x, h => by
    unfold minL
    rcases List.mem_cons.mp h with h | h
    · subst h
      exact Int.min_le_left ..
    · exact Int.le_trans (Int.min_le_right ..) (minL_le h)
theorem b_max {ns : List Int} (hc : X.calm = true) (hne : ns ≠ []) : Blt X M os (.builtin "max") [.lst (ns.map D.int)] (.int (maxL ns)) := ⟨_, cr_max hc, fun vs H Q s r k => by
  obtain ⟨v, rfl, r1⟩ := r.one
  cases r1 with
  | @lst a xs _ h1 hm hr =>
    rw [hr.ints] at h1
    refine ⟨a, ns, rfl, .inl (.of h1), List.length_pos_iff.mpr hne, fun m m1 m2 => ?_⟩
    have e : m = maxL ns := Int.le_antisymm (maxL_le m1) (m2 _ (maxL_mem hne))
    subst e
    exact k _ _ .refl (.int _)⟩
theorem b_min {ns : List Int} (hc : X.calm = true) (hne : ns ≠ []) : Blt X M os (.builtin "min") [.lst (ns.map D.int)] (.int (minL ns)) := ⟨_, cr_min hc, fun vs H Q s r k => by
  obtain ⟨v, rfl, r1⟩ := r.one
  cases r1 with
  | @lst a xs _ h1 hm hr =>
    rw [hr.ints] at h1
    refine ⟨a, ns, rfl, .inl (.of h1), List.length_pos_iff.mpr hne, fun m m1 m2 => ?_⟩
    have e : m = minL ns := Int.le_antisymm (m2 _ (minL_mem hne)) (minL_le m1)
    subst e
    exact k _ _ .refl (.int _)⟩
theorem b_isi {T : String} {k : Bool} {t : Value} (hty : ∀ (H : Hp) (v : V), R M H v d → TyOf X.K H v t) (hk : PySem.W.kitOne X.K t (.type T) = some k) : Blt X M os (.builtin "isinstance") [d, .ty T] (.bl k) := ⟨_, call_isi, fun vs H Q s r q => by
  obtain ⟨v, u, rfl, r1, r2⟩ := r.two
  cases r2
  exact ⟨v, .ty T, t, .type T, k, rfl, .ty T, .base (hty H v r1), hk, q _ _ .refl (.bl _)⟩⟩
theorem ty_int {i : Int} {K : PySem.W.Frag} {H : Hp} {v : V} (r : R M H v (.int i)) : TyOf K H v (.type "int") := by
  cases r
  exact .int i
theorem ty_str {i : Str} {K : PySem.W.Frag} {H : Hp} {v : V} (r : R M H v (.str i)) : TyOf K H v (.type "str") := by
  cases r
  exact .str i
theorem ty_tup {ds : List D} {K : PySem.W.Frag} {H : Hp} {v : V} (r : R M H v (.tup ds)) : TyOf K H v (.type "tuple") := by
  cases r with
  | tup h1 hm hr => exact .tup h1
/-- the name of a built-in type -/
theorem ev_ty {x : Str} {T : String} (hm : X.mg x = none) (hv : bootBuiltins x = some (.type T)) (hg : Gl X x := by rfl) (hn : x ≠ "__name__" := by decide) (hdb : (x == ("__debug__" : Str)) = false := by decide) : Ev X M os δ (.Name x pos) (.ty T) os :=
  ⟨fun pins s σ H Q I ⟨so, en, k⟩ => ld_blt I hg hm hv ⟨.ty T, H, I, rfl, k _ H .refl so (.ty T)⟩ hn hdb⟩
/-- a global that is an object of the module -/
theorem ev_glo {x : Str} {q : Addr} (hm : X.mg x = some (.ref q)) (hg : Gl X x := by rfl) (hdb : (x == ("__debug__" : Str)) = false := by decide) : Ev X M os δ (.Name x pos) (.adr q) os :=
  ⟨fun pins s σ H Q I ⟨so, en, k⟩ => ld_glob I hg hm ⟨.ref q, H, I, rfl, k _ H .refl so (.adr q)⟩ hdb⟩
end

/-! ### contracts -/
abbrev Ctr := List Addr → List D → List MO → D → List MO → Prop
def spR (C : Ctr) : Sp := fun vs H Q _ => ∃ M os ds d os', Sok M os H ∧ RA M H vs ds ∧ C M ds os d os' ∧ ∀ v H', Keep M H H' → Sok M os' H' → R M H' v d → Q v H'
/-- a function of its arguments -/
def pureC (g : List D → D → Prop) : Ctr := fun _ ds os d os' => os' = os ∧ g ds d
section
variable {P : Program} {w : World} {K : PySem.W.Frag} {mg : Str → Option Value} {base : Heap}
theorem spR_len {C : Ctr} {n : Nat} (h : ∀ M ds os d os', C M ds os d os' → ds.length = n) : ∀ vs H Q E, spR C vs H Q E → vs.length = n := fun vs H Q E ⟨M, os, ds, d, os', s, r, c, _⟩ => by rw [r.length]; exact h _ _ _ _ _ c
/-- what is wanted of a body -/
abbrev Bdy (X : Cx) (N : List Str) (body : List Stmt) (C : Ctr) : Prop := ∀ M ds os d os', C M ds os d os' → Stm X M os (ds.map some ++ List.replicate (N.length - ds.length) none) body ⟨M, M, fun _ os1 => d = .non ∧ os1 = os', fun d1 os1 => d1 = d ∧ os1 = os'⟩
theorem bdy_ok {X : Cx} {N : List Str} {body : List Stmt} {C : Ctr} {vs : List V} {H : Hp} {Q : VK} {E : XK} (hb : Bdy X N body C) (h : spR C vs H Q E) : ∃ t, PSs X body t ∧ t { nx := fun _ H' => Q .non H', rt := Q } (L2.start N vs) H := by
  obtain ⟨M, os, ds, d, os', s, r, c, q⟩ := h
  refine ⟨_, hb M ds os d os' c, s, EnvR.start r, fun σ' H' δ' os1 k s1 e1 ⟨e2, e3⟩ => ?_, fun v d1 H' os1 k s1 r1 ⟨e2, e3⟩ => ?_⟩
  · subst e2 e3
    exact q _ _ k s1 .non
  · subst e2 e3
    exact q _ _ k s1 r1
/-- a def of the module at place i of its top -/
structure HasD (K : PySem.W.Frag) (mg : Str → Option Value) (x : Str) (st : Stmt) : Prop where
  ex : ∃ f fd, FunD K x x (defArgs st) (defBody st) (defScope st) [] [] f fd ∧ mg x = some (.ref f)
abbrev Cl (P : Program) (w : World) (K : PySem.W.Frag) (mg : Str → Option Value) (base : Heap) (k : Nat) (x : Str) (C : Ctr) : Prop := C8.Cal P w K mg base k x (spR C) []
theorem cl_ok {x : Str} {st : Stmt} {N ps : List Str} {k : Nat} {C : Ctr} (h : HasD K mg x st) (S : FnScope N ps (defScope st))
    (hb : ∀ (kV doc pm : Value) (an : Option Addr) (cdv ct : Value) (us : List Value), us.length = ps.length → bindArgs (PySem.W.fnOf x x (defArgs st) (defBody st) (defScope st) .none kV doc pm an cdv ct) ⟨us, []⟩ = pure (ps.zip us))
    (hl : ∀ M ds os d os', C M ds os d os' → ds.length = ps.length)
    (body : ∀ (f : Addr) (cdv : Value) (A : Around) (outer : List Env) (s : Shared) (H : Hp) (E : XK), Room k (A.deeper (envOfC x (defScope st) s.heap.objs.size f cdv)) →
      Bdy (cxOf CX0 P w K mg base N x (defScope st) f cdv A outer s H E).nox N (defBody st) C) : Cl P w K mg base (k + 1) x C := by
  obtain ⟨f, fd, F, hm⟩ := h.ex
  exact ⟨f, fd, ps, [], F.ok S (spR_len hl) fun cdv A outer s H vs Q E hr hsp => by
    obtain ⟨t, h1, h2⟩ := bdy_ok (body f cdv A outer s H E hr) hsp
    exact ⟨t, h1.nox, h2⟩, hm, F.kp, F.bindsN hb, .nil⟩
end
section
variable {X : Cx} {M : List Addr} {os os1 os2 os3 : List MO} {δ : List (Option D)} {a b c e : Expr} {pos p : Pos} {d da db : D} {j n k : Nat} {x : Str} {C : Ctr} {es : List Expr} {ds : List D}
theorem ev_call (c : C8.Cal X.prog X.w X.K X.mg X.base k x (spR C) []) (hr : Room j X.A) (ha : Arg X M os δ (e :: es) ds os1) (hC : C M ds os1 d os2) (hk : k ≤ j := by decide) (hg : Gl X x := by rfl) (hdb : (x == ("__debug__" : Str)) = false := by decide)
    (he : starEach (e :: es) X.env = (false, eval e X.env) :: starEach es X.env := by rfl) (hpl : (backTo pos (starEach es X.env)).any (·.1) = false := by rfl) : Ev X M os δ (.Call (.Name x p) (e :: es) [] pos) d os2 :=
  pe_imp (C8.pe_c c hr hk hg ha hdb he hpl) fun σ H Q ⟨s, en, kq⟩ => ⟨s, en, fun vs H1 k1 s1 r1 => by
    show spR C (vs ++ []) H1 Q C8.E0
    rw [List.append_nil]
    exact ⟨M, os1, ds, d, os2, s1, r1, hC, fun v H2 k2 s2 r2 => kq v H2 (k1.trans k2) s2 r2⟩⟩
/-- a function of its arguments -/
theorem ev_callP {g : List D → D → Prop} (c : C8.Cal X.prog X.w X.K X.mg X.base k x (spR (pureC g)) []) (hr : Room j X.A) (ha : Arg X M os δ (e :: es) ds os1) (hC : g ds d) (hk : k ≤ j := by decide) (hg : Gl X x := by rfl) (hdb : (x == ("__debug__" : Str)) = false := by decide)
    (he : starEach (e :: es) X.env = (false, eval e X.env) :: starEach es X.env := by rfl) (hpl : (backTo pos (starEach es X.env)).any (·.1) = false := by rfl) : Ev X M os δ (.Call (.Name x p) (e :: es) [] pos) d os1 :=
  ev_call c hr ha ⟨rfl, hC⟩ hk hg hdb he hpl
end
end PW
namespace PW
open PySem PySem.Spec PyProof.Rows L2

/-! ### enumerate of a tuple -/
section
set_option maxHeartbeats 8000000 in
theorem enumT_new {v : Value} {o : Obj} {HH : Heap → Prop} (B : Begins v o HH) :
    Meets (Builtin.«enumerate.__new__» ⟨[.type "enumerate", v], []⟩) (fun _ R s => HH s.heap ∧
      R (.ok (.ret (.ref (s.heap.push o).objs.size))) { s with heap := (s.heap.push o).push { cls := .type "enumerate", data := .fields #[.none, .bool false, .ref s.heap.objs.size, rawInt 0, .none, .none] } }) :=
  .of_wp fun prog w A R s h => by
    obtain ⟨hp, g, d, tk, os⟩ := s
    obtain ⟨h1, h⟩ := h
    have hsub := sub_enumerate
    have q1 : ∀ {A' : Around} {E : Value → Shared → Prop} {Q : Value → Shared → Prop}, Q (.ref hp.objs.size) ⟨hp.push o, g, d, tk, os⟩ → wpAny (model prog w) A' (pyIter v) Q E ⟨hp, g, d, tk, os⟩ :=
      fun q => B.iter prog w _ _ ⟨hp, g, d, tk, os⟩ _ h1 q
    wp_walk using q1
    refine wpAny_stack_any fun st => wpAny_pure ?_
    split
    · rename_i c _ _ _ _ _
      cases (c == Value.type "enumerate")
      · wp_walk using q1
        exact ⟨_, rfl, h⟩
      · wp_walk using q1
        exact ⟨_, rfl, h⟩
    · wp_walk using q1
      exact ⟨_, rfl, h⟩
variable {prog : Program} {w : World} {A : Around} {E : Value → Shared → Prop} {s : Shared}
theorem enumT_call {v : Value} {o : Obj} {HH : Heap → Prop} {Q : Value → Shared → Prop} (B : Begins v o HH) (h1 : HH s.heap)
    (h : ∀ h', IsEnum h' (s.heap.objs.size + 1) s.heap.objs.size 0 .none → h'.get? s.heap.objs.size = some o → (∀ b o, s.heap.get? b = some o → h'.get? b = some o) → Q (.ref (s.heap.objs.size + 1)) { s with heap := h' }) :
    wpAny (model prog w) A (call (.type "enumerate") [v]) Q E s := by
  refine callType_new F.called_enumerate (by decide) (F.typeCall_enumerate_1 _) (F.newCall_enumerate_1 _) (fun obj => F.args_object_init_2 obj _) F.entry_enumerate_new (enumT_new B) ⟨h1, ?_⟩
  have hz : (s.heap.push o).objs.size = s.heap.objs.size + 1 := Heap.size_push ..
  show _ ∧ _
  rw [hz]
  have he : IsEnum ((s.heap.push o).push { cls := .type "enumerate", data := .fields #[.none, .bool false, .ref s.heap.objs.size, rawInt 0, .none, .none] }) (s.heap.objs.size + 1) s.heap.objs.size 0 .none := by
    have := Heap.get?_push_size (s.heap.push o) (o := { cls := .type "enumerate", data := .fields #[.none, .bool false, .ref s.heap.objs.size, rawInt 0, .none, .none] }) rfl
    rw [hz] at this
    exact this
  exact ⟨⟨_, he, rfl⟩, h _ he (Heap.get?_push_of_some _ (Heap.get?_push_size _ B.free)) fun b o x => Heap.get?_push_of_some _ (Heap.get?_push_of_some _ x)⟩
end
/-- the tuple at a, each item in a new pair -/
def IteT (K : PySem.W.Frag) (a : Addr) : It :=
  ⟨fun i H => ∃ (xs : List V) (x : V), SqT K H a xs ∧ xs[i]? = some x, fun i H v H' => ∃ T x, v = .ref T ∧ H T = none ∧ H' = upd H T (.tup [.int (i : Nat), x]) ∧ ∀ xs, SqT K H a xs → xs[i]? = some x, fun i H => ∃ xs : List V, SqT K H a xs ∧ xs.length = i⟩
theorem turn_enumT {P : Program} {w : World} {K : PySem.W.Frag} {elts : List Expr} {kk : Nat} {tpos : Pos} (a e it : Addr) (hea : e ≠ a) (hia : a ≠ it) :
    Turn P w K (.Tuple elts kk tpos) (IteT K a) [e, it] e (fun i h => (∃ old, IsEnum h e it ((i : Nat) : Int) old) ∧ h.IsTupleIter it a i ∧ e ≠ it) where
  mem := by simp
  obj := fun i h st b hb => by
    obtain ⟨⟨old, he⟩, ⟨o, ho, hc, hd⟩, _⟩ := st
    have e' : b = e ∨ b = it := by simpa using hb
    rcases e' with z | z
    · rw [z]
      exact ⟨_, he, fun v q => nomatch q⟩
    · rw [z]
      exact ⟨o, ho, fun v q => by rw [hd] at q; cases q⟩
  keep := fun i h h' st k => let ⟨⟨old, he⟩, hi, hne⟩ := st; ⟨⟨old, k e (by simp) _ he⟩, hi.at fun o q => k it (by simp) o q, hne⟩
  item := by
    intro X hP hw hK hc i pins s σ H E I hf st hg
    subst hP hw hK
    obtain ⟨⟨old, he⟩, hit, hne⟩ := st
    obtain ⟨xs, x, hq, hx⟩ := hg
    obtain ⟨its, rv, p, hz⟩ := I.tuple hq
    obtain ⟨u, hu, ru⟩ := rv.get hx
    have hel : e < s.heap.objs.size := Heap.lt_size he
    have hil : it < s.heap.objs.size := by
      obtain ⟨_, q, _⟩ := hit
      exact Heap.lt_size q
    have hlt : i < its.toArray.size := by
      obtain ⟨q, _⟩ := List.getElem?_eq_some_iff.mp hu
      simpa using q
    refine wpAny_pyNext_enum_itemD (Draws.tuple (A := X.A.in1) (show X.A.in1.handled = none from I.ok.hd hc) it a hia its.toArray) he ⟨hit, p⟩ hlt hne (by simp [hea, hne]) fun x' h' tk hPx ho st' hT hsz hk => ?_
    have ex : x' = u := by
      have h1 : its.toArray[i]? = some x' := hPx
      rw [List.getElem?_toArray, hu] at h1
      exact (Option.some.inj h1).symm
    subst ex
    refine ⟨_, rfl, wpAny_letOwnedTupleGo_enum (s := { s with heap := h', toks := tk + 1 }) ho fun h'' he' sb => ?_⟩
    have hT2 : h''.get? s.heap.objs.size = some { cls := .type "tuple", data := .seq #[.int i tk, x'] } := (sb.2 _ (Nat.ne_of_gt hel)).trans hT
    have new : ObjOk X.prog X.w (upd H s.heap.objs.size (.tup [.int (i : Nat), x])) h'' s.heap.objs.size (.tup [.int (i : Nat), x]) :=
      ⟨by show 2 ≤ sizeLine; decide, [.int i tk, x'], .cons ⟨_, rfl⟩ (.cons ru .nil), ⟨_, hT2, rfl, _, rfl⟩⟩
    have I1 : Inv X pins σ (upd H s.heap.objs.size (.tup [.int (i : Nat), x])) { s with heap := h'', toks := tk + 1 } :=
      I.turnedNew (ch := [e, it]) (fun b ob hb q => (sb.2 b (fun z => hb (by simp [z]))).trans (hk b ob (fun z => hb (by simp [z])) (fun z => hb (by simp [z])) q)) hf (Nat.le_refl _) new
    refine ⟨.ref s.heap.objs.size, _, I1, rfl, ⟨_, x, rfl, I.hok.fresh (Nat.le_refl _), rfl, fun ys hy => by rw [I.tuple_inj hy hq]; exact hx⟩, ⟨⟨x', ?_⟩, st'.1.at fun o q => (sb.2 it (Ne.symm hne)).trans q, hne⟩, fun b hb => ?_⟩
    · have e1 : ((i + 1 : Nat) : Int) = (i : Int) + 1 := by omega
      rw [e1]
      exact he'
    · have hb' : b < s.heap.objs.size := by
        have e' : b = e ∨ b = it := by simpa using hb
        rcases e' with z | z
        · rw [z]
          exact hel
        · rw [z]
          exact hil
      rw [upd_ne (Nat.ne_of_lt hb')]
      exact (hf b hb).1
  done := by
    intro X hP hw hK hc i pins s σ H E I hf st hg
    subst hP hw hK
    obtain ⟨⟨old, he⟩, hit, hne⟩ := st
    obtain ⟨xs, hq, hx⟩ := hg
    obtain ⟨its, rv, p, hz⟩ := I.tuple hq
    obtain ⟨f0, f1, f2, f3, f4, f5⟩ := hf it (by simp)
    have hl := rv.length
    have hi : i = its.toArray.size := by
      rw [List.size_toArray]
      omega
    subst hi
    exact wpAny_pyNext_enum_endD (Draws.tuple (A := X.A.in1) (show X.A.in1.handled = none from I.ok.hd hc) it a hia its.toArray) he ⟨hit, p⟩ fun h' eb => ⟨rfl, I.turned (t' := s.toks) (fun b o hb q => eb b o hb q) f0 f1 f3 f4 f5⟩
  self := fun A i s Q E st h => let ⟨⟨_, he⟩, _⟩ := st; wpAny_pyIter_enum he h

section
variable {X : Cx} {M : List Addr} {os os1 os2 os3 : List MO} {δ : List (Option D)} {tg e a b : Expr} {pos p : Pos} {ds es : List D} {elts : List Expr} {kk : Nat} {tpos : Pos}
theorem len_of_map {α β : Type} {xs : List α} {ys : List β} {f : Nat → α → β} (h : ∀ i : Nat, ys[i]? = (xs[i]?).map (f i)) : ys.length = xs.length := by
  have h3 : ys.length ≤ xs.length := List.getElem?_eq_none_iff.mp (by rw [h, List.getElem?_eq_none (Nat.le_refl _)] <;> rfl)
  have h5 : xs.length ≤ ys.length := List.getElem?_eq_none_iff.mp (by
    have q := h ys.length
    rw [List.getElem?_eq_none (Nat.le_refl _)] at q
    exact Option.map_eq_none_iff.mp q.symm)
  omega
/-- for i, x in enumerate(tuple) -/
def tIv (M : List Addr) (os : List MO) (δ : List (Option D)) (ds : List D) (os' : List MO) (It' : Addr → It) (T : Addr → Hp → Prop) : TI := fun σ H Rq => Sok M os H ∧ EnvR M H σ δ ∧ ∀ a H', Keep M H H' → Sok M os' H' → T a H' → Rq (It' a) H'
theorem pi_enumT (hg : Gl X "enumerate") (hm : X.mg "enumerate" = none) (h : Arg X M os δ [e] [.tup ds] os1) (hs : starEach [e] X.env = [(false, eval e X.env)] := by rfl) :
    PI X (.Tuple elts kk tpos) (.Call (.Name "enumerate" p) [e] [] pos) (tIv M os δ ds os1 (IteT X.K) fun a H => ∃ xs, H a = some (.tup xs) ∧ a ∉ M ∧ RA M H xs ds) := by
  refine ⟨fun pins s σ H R I ⟨so, en, kq⟩ => ?_⟩
  refine Call_ (ld_blt I hg hm boot_enumerate (PyProof.Rows.callWith_type1 (thn (h.run pos pins s σ H _ I ⟨so, en, fun vs H1 k1 s1 r1 => (⟨k1, s1, r1⟩ : Keep M H H1 ∧ Sok M os1 H1 ∧ RA M H1 vs [.tup ds])⟩) fun us s1 ⟨vs, H1, I1, r1, k1, so1, ra⟩ => ?_) hs rfl))
  obtain ⟨v, ev, rv⟩ := ra.one
  subst ev
  cases rv with
  | @tup a xs _ h1 hnm hr =>
    cases r1 with
    | cons r rr =>
      cases rr
      cases r
      obtain ⟨its, rvs, p', hz⟩ := I1.tuple (.inl (.of h1))
      have hlt : a < s1.heap.objs.size := by
        obtain ⟨o, ho, _⟩ := id p'
        exact Heap.lt_size ho
      refine enumT_call (begins_tuple a its.toArray) (show s1.heap.IsTuple a its.toArray from p') fun h' he hit hk => wpAny_pyIter_enum he ?_
      have I2 : Inv X pins σ H1 { s1 with heap := h' } := I1.kept (t' := s1.toks) hk
      refine ⟨s1.heap.objs.size + 1, [s1.heap.objs.size + 1, s1.heap.objs.size], _, _, H1, rfl, I2, turn_enumT a (s1.heap.objs.size + 1) s1.heap.objs.size (Nat.ne_of_gt (Nat.lt_succ_of_lt hlt)) (Nat.ne_of_lt hlt), ⟨⟨.none, he⟩, ⟨_, hit, rfl, rfl⟩, Nat.succ_ne_self _⟩, fun b hb => ?_, kq a H1 k1 so1 ⟨xs, h1, hnm, hr⟩⟩
      have e' : b = s1.heap.objs.size + 1 ∨ b = s1.heap.objs.size := by simpa using hb
      have hle : s1.heap.objs.size ≤ b := by
        rcases e' with z | z
        · rw [z]
          exact Nat.le_add_right _ _
        · rw [z]
          exact Nat.le_refl _
      exact I1.fpOk hle (I1.hok.fresh hle)
theorem wk_enumT {ds' : List D} (hm : X.mg "enumerate" = none) (h : Ev X M os δ e (.tup ds) os1) (hd : ∀ i : Nat, ds'[i]? = (ds[i]?).map fun d => D.tup [.int (i : Nat), d]) (hg : Gl X "enumerate" := by rfl) (hs : starEach [e] X.env = [(false, eval e X.env)] := by rfl) :
    Wk X M os δ (.Tuple elts kk tpos) (.Call (.Name "enumerate" p) [e] [] pos) ds' os1 := pi_imp (pi_enumT hg hm (arg_cons h arg_nil (hs.trans (by rfl))) hs) fun σ H Rq ⟨s, en, k⟩ => ⟨s, en, fun a H1 k1 s1 ⟨xs, h1, hnm, hr⟩ => k _ _ k1 s1 fun N hN hM i H2 k2 hdm => by
  have ha : H2 a = some (.tup xs) := k2.old _ _ (hN a (by rw [h1]; simp) hnm) h1
  have rN : RA N H2 xs ds := (hr.sub fun b hb hn => hN b hb hn).keep k2
  have hlen : ds'.length = ds.length := by
    exact len_of_map (f := fun i d => D.tup [.int (i : Nat), d]) hd
  refine ⟨fun d hdi => ?_, fun hi => ?_⟩
  · rw [hd] at hdi
    obtain ⟨d0, hd0, e0⟩ := Option.map_eq_some_iff.mp hdi
    subst e0
    obtain ⟨v, hv, rv⟩ := rN.get hd0
    refine ⟨⟨xs, v, .inl (.of ha), hv⟩, fun x H' ⟨T, y, ex, hT, eH, hy⟩ => ?_⟩
    have e3 := hy xs (.inl (.of ha))
    rw [hv] at e3
    cases e3
    subst ex eH
    exact ⟨Ext.new hT, .tup upd_same (not_mem_dom hdm hT) (.cons (.int _) (.cons (rv.keep (Ext.new hT).keep) .nil))⟩
  · exact ⟨xs, .inl (.of ha), by rw [hr.length, ← hlen]; exact hi.symm⟩⟩
theorem wk_enumL {ds' : List D} (hm : X.mg "enumerate" = none) (h : Ev X M os δ e (.lst ds) os1) (hd : ∀ i : Nat, ds'[i]? = (ds[i]?).map fun d => D.tup [.int (i : Nat), d]) (hg : Gl X "enumerate" := by rfl) (hs : starEach [e] X.env = [(false, eval e X.env)] := by rfl) :
    Wk X M os δ (.Tuple elts kk tpos) (.Call (.Name "enumerate" p) [e] [] pos) ds' os1 := pi_imp (pi_enum hg hm (arg_cons h arg_nil (hs.trans (by rfl))) hs) fun σ H Rq ⟨s, en, k⟩ => ⟨s, en, fun vs H1 k1 s1 r1 => by
  obtain ⟨v, ev, rv⟩ := r1.one
  subst ev
  cases rv with
  | @lst a xs _ h1 hnm hr =>
    refine ⟨a, xs, rfl, .inl (.of h1), k _ _ k1 s1 fun N hN hM i H2 k2 hdm => ?_⟩
    have ha : H2 a = some (.lst xs) := k2.old _ _ (hN a (by rw [h1]; simp) hnm) h1
    have rN : RA N H2 xs ds := (hr.sub fun b hb hn => hN b hb hn).keep k2
    have hlen : ds'.length = ds.length := by
      exact len_of_map (f := fun i d => D.tup [.int (i : Nat), d]) hd
    refine ⟨fun d hdi => ?_, fun hi => ?_⟩
    · rw [hd] at hdi
      obtain ⟨d0, hd0, e0⟩ := Option.map_eq_some_iff.mp hdi
      subst e0
      obtain ⟨v, hv, rv⟩ := rN.get hd0
      refine ⟨⟨xs, v, .inl (.of ha), hv⟩, fun x H' ⟨T, y, ex, hT, eH, hy⟩ => ?_⟩
      have e3 := hy xs (.inl (.of ha))
      rw [hv] at e3
      cases e3
      subst ex eH
      exact ⟨Ext.new hT, .tup upd_same (not_mem_dom hdm hT) (.cons (.int _) (.cons (rv.keep (Ext.new hT).keep) .nil))⟩
    · exact ⟨xs, .inl (.of ha), by rw [hr.length, ← hlen]; omega⟩⟩
/-- for x, y in zip(t, u), two tuples -/
theorem wk_zipT {ds' : List D} (hm : X.mg "zip" = none) (h : Arg X M os δ [a, b] [.tup ds, .tup es] os1) (hd : ds' = List.zipWith (fun x y => D.tup [x, y]) ds es) (hg : Gl X "zip" := by rfl)
    (hs : starEach [a, b] X.env = (false, eval a X.env) :: starEach [b] X.env := by rfl) (hpl : (backTo pos (starEach [b] X.env)).any (·.1) = false := by rfl) :
    Wk X M os δ (.Tuple elts kk tpos) (.Call (.Name "zip" p) [a, b] [] pos) ds' os1 := pi_imp (RZ.pi_zipA hg hm h hs hpl) fun σ H Rq ⟨s, en, k⟩ => ⟨s, en, fun vs H1 k1 s1 r1 => by
  subst hd
  obtain ⟨v, u, ev, rv, ru⟩ := r1.two
  subst ev
  cases rv with
  | @tup a xs _ h1 hnm hr =>
    cases ru with
    | @tup b ys _ h2 hnm2 hr2 =>
      refine ⟨a, b, xs, ys, rfl, .inr ⟨.inl (.of h1), .inl (.of h2), k _ _ k1 s1 fun N hN hM i H2 k2 hdm => ?_⟩⟩
      have ha : H2 a = some (.tup xs) := k2.old _ _ (hN a (by rw [h1]; simp) hnm) h1
      have hb : H2 b = some (.tup ys) := k2.old _ _ (hN b (by rw [h2]; simp) hnm2) h2
      have rN : RA N H2 xs ds := (hr.sub fun b hb hn => hN b hb hn).keep k2
      have rN2 : RA N H2 ys es := (hr2.sub fun b hb hn => hN b hb hn).keep k2
      refine ⟨fun d hdi => ?_, fun hi => ?_⟩
      · rw [List.getElem?_zipWith] at hdi
        cases q1 : ds[i]? with
        | none => rw [q1] at hdi; cases hdi
        | some d1 =>
          cases q2 : es[i]? with
          | none => rw [q1, q2] at hdi; cases hdi
          | some d2 =>
            rw [q1, q2] at hdi
            cases hdi
            obtain ⟨v, hv, rv⟩ := rN.get q1
            obtain ⟨u, hu, ru⟩ := rN2.get q2
            refine ⟨⟨xs, ys, v, u, .inl (.of ha), .inl (.of hb), hv, hu⟩, fun x H' ⟨T, y, z, ex, hT, eH, hy, hz⟩ => ?_⟩
            have e3 := hy xs (.inl (.of ha))
            rw [hv] at e3
            cases e3
            have e4 := hz ys (.inl (.of hb))
            rw [hu] at e4
            cases e4
            subst ex eH
            exact ⟨Ext.new hT, .tup upd_same (not_mem_dom hdm hT) (.cons (rv.keep (Ext.new hT).keep) (.cons (ru.keep (Ext.new hT).keep) .nil))⟩
      · refine ⟨xs, ys, .inl (.of ha), .inl (.of hb), ?_⟩
        rw [List.length_zipWith] at hi
        rw [hr.length, hr2.length]
        omega⟩

/-! ### l.count(x), list(range(..)) -/
def rCntD (K : PySem.W.Frag) : V → List V → Hp → VK → Prop := fun x xs H Q => ∃ (a : Addr) (y : V) (d : PyData) (ds : List PyData), x = V.ref a ∧ xs = [y] ∧ Dp K H (V.ref a) (.list ds) ∧ Dp K H y d ∧ SeqAt.shaped (.list ds) = true ∧ SeqAt.shaped d = true ∧
  Q (.int ((ds.countP fun z => PyData.eqv z d : Nat) : Int)) H
theorem mt_countD (hu : X.A.units + 65 < cLine) : MtR X "list.count" (rCntD X.K) := by
  intro pins s σ H x xs v us Q I rx rxs h
  obtain ⟨a, y, d, ds, rfl, rfl, hl, hy, sl, sd, q⟩ := h
  cases rx
  cases rxs with
  | cons ry rt =>
    rename_i uy ut
    cases rt
    obtain ⟨bs, r1⟩ := Dp.reads I d y uy hy ry
    cases hl with
    | lst hs ha =>
      obtain ⟨its, rv, pl, hlen⟩ := I.list hs
      obtain ⟨as, h4⟩ := Dp.readsAll I ds _ its ha rv
      have c1 : PyData.canLayAll0 ds = true := SeqAt.canLay_of_shaped sl
      refine SeqAt.count_list_data pl.isList (show ReadsAll s.heap its.toArray.toList ds as from h4) r1 (PyData.plainAll_of_canLay0 ds c1) (PyData.plain_of_canLay0 d (SeqAt.canLay_of_shaped sd)) ?_ ⟨.int _, H, I.tok _, ⟨_, rfl⟩, q⟩
      have h2 := SeqAt.depth_of_shaped sd
      have h3 : min (PyData.depthAll ds) d.depth ≤ d.depth := Nat.min_le_right _ _
      omega
theorem okD_lst_dp {K : PySem.W.Frag} {H : Hp} {n : Nat} {ds : List D} {v : V} (h : okD n (.lst ds) = true) (r : R M H v (.lst ds)) : ∃ a, v = .ref a ∧ Dp K H (.ref a) (pdD (.lst ds)) := by
  have q := (okD_dp (K := K) n _ v h r).1
  cases r with
  | @lst a xs _ h1 hm hr => exact ⟨a, rfl, q⟩
theorem ev_count {j n : Nat} {d : D} {apos : Pos} (hr : Room j X.A) (ha : Ev X M os δ a (.lst ds) os1) (hb : Arg X M os1 δ [b] [d] os2) (h1 : okD n (.lst ds) = true) (h2 : okD n d = true) (hn : n ≤ 64 := by decide)
    (hbase : attributeBase a "count" X.env (eval a X.env) = eval a X.env := by rfl)
    (hfew : ((backTo pos (starEach [b] X.env)).all (fun x => !x.1) && (backToKw pos (keywordEach [] X.env)).all (fun x => x.1.isSome) && decide (([b] : List Expr).length + ([] : List Keyword).length + (if ([] : List Keyword).isEmpty then 0 else 1) < 30)) = true := by rfl)
    (hline : (apos.endLine == pos.line) = true := by rfl) (hs : starEach [b] X.env = (false, eval b X.env) :: starEach [] X.env := by rfl) (hplain : (backTo pos (starEach [] X.env)).any (·.1) = false := by rfl) :
    Ev X M os δ (.Call (.Attribute a "count" apos) [b] [] pos) (.int (ds.countP fun z => eqD z d : Nat)) os2 :=
  pe_imp (pe_bm F.plainAttrs_list F.slot_list_count F.type_list_count (mt_countD (by have := hr.units; have := hr.un; omega)) ha hb hbase hfew hline hs hplain) fun σ H Q ⟨s, en, k⟩ => ⟨s, en, fun v H1 k1 s1 r1 => by
    have hty : tyV X.K "list" v H1 := by
      cases r1 with
      | lst h1 hm hr => exact .inl ⟨rfl, _, .inl (.of h1)⟩
    refine ⟨hty, s1, en.keep k1, fun vs H2 k2 s2 r2 => ?_⟩
    obtain ⟨u, ev, ru⟩ := r2.one
    subst ev
    obtain ⟨q, eq, dq⟩ := okD_lst_dp (K := X.K) h1 (r1.keep k2)
    subst eq
    obtain ⟨a1, a2⟩ := okD_shaped (K := X.K) h1 hn (r1.keep k2)
    obtain ⟨b1, b2⟩ := okD_shaped (K := X.K) h2 hn ru
    refine ⟨q, u, pdD d, pdA ds, rfl, rfl, dq, b1, a2, b2, ?_⟩
    have e : (pdA ds).countP (fun z => PyData.eqv z (pdD d)) = ds.countP fun z => eqD z d := by
      have e1 : pdA ds = ds.map pdD := by
        have := pdA_map (fun d : D => d) ds
        simpa using this
      rw [e1, List.countP_map]
      rfl
    rw [e]
    exact k _ _ (k1.trans k2) s2 (.int _)⟩
theorem rgV_RA {H : Hp} {i j : Int} : RA M H (rgV i j) (rngD i (j - i).toNat) := by
  unfold rgV rngD
  have : ∀ l : List Nat, RA M H (l.map fun k : Nat => V.int (i + (k : Nat))) (l.map fun k : Nat => D.int (i + (k : Int))) := by
    intro l
    induction l with
    | nil => exact .nil
    | cons x l ih => exact .cons (.int _) ih
  exact this _
theorem ev_listRg {i j : Int} {p2 pos2 : Pos} (hml : X.mg "list" = none) (hmr : X.mg "range" = none) (ha : Ev X M os δ a (.int i) os1) (hb : Ev X M os1 δ b (.int j) os2) (hij : RgOk i j) (hc : X.calm = true) (hgl : Gl X "list" := by rfl) (hgr : Gl X "range" := by rfl)
    (n1 : starEach [a, b] X.env = (false, eval a X.env) :: starEach [b] X.env := by rfl) (n2 : starEach [b] X.env = (false, eval b X.env) :: starEach [] X.env := by rfl) (n3 : (backTo pos (starEach [b] X.env)).any (·.1) = false := by rfl)
    (n4 : starEach [.Call (.Name "range" p) [a, b] [] pos] X.env = (false, eval (.Call (.Name "range" p) [a, b] [] pos) X.env) :: starEach [] X.env := by rfl) :
    Ev X M os δ (.Call (.Name "list" p2) [.Call (.Name "range" p) [a, b] [] pos] [] pos2) (.lst (rngD i (j - i).toNat)) os2 :=
  pe_imp (pe_listRg hc hgl hml (prg_2 hgr hmr ha hb n1 n2 n3) n4) fun σ H Q ⟨s, en, k⟩ => ⟨s, en, fun v H1 k1 s1 r1 => ⟨s1, en.keep k1, fun u H2 k2 s2 r2 => by
    cases r1
    cases r2
    exact ⟨i, j, rfl, rfl, hij, fun q hq => k _ _ ((k1.trans k2).trans (Ext.new hq).keep) (s2.ext (Ext.new hq)) (new_lst s2 hq rgV_RA)⟩⟩⟩
theorem pass_never {P : Program} {w : World} {A : Around} {env : Env} : True := trivial
end
end PW
namespace PW
open PySem PySem.Spec PyProof.Rows L2
section
variable {X : Cx} {M : List Addr} {os os1 os2 os3 : List MO} {δ : List (Option D)} {tg e a b c : Expr} {pos p : Pos} {d : D} {ds es' : List D} {rest : List Stmt} {k : Kt} {i j n : Nat} {L : Addr}
theorem pn {Y : Cx} : PassesOwn (model Y.nox.prog Y.nox.w) Y.nox.A Y.nox.env Y.nox.xe := PassesOwn.never
/-! ### lists that change -/
theorem Sok.lst {H : Hp} (s : Sok M os H) (hi : M[i]? = some L) (ho : os[i]? = some (.lst ds)) : ∃ xs, H L = some (.lst xs) ∧ RA M H xs ds := s.at_ i L _ hi ho
/-- x.append(e) -/
theorem ev_append (i : Nat) {apos : Pos} (ha : Ev X M os δ a (.adr L) os1) (hb : Arg X M os1 δ [b] [d] os2) (hi : M[i]? = some L) (ho1 : os1[i]? = some (.lst es')) (ho : os2[i]? = some (.lst ds)) (hz : ds.length ≤ 1000000)
    (hbase : attributeBase a "append" X.env (eval a X.env) = eval a X.env := by rfl)
    (hfew : ((backTo pos (starEach [b] X.env)).all (fun x => !x.1) && (backToKw pos (keywordEach [] X.env)).all (fun x => x.1.isSome) && decide (([b] : List Expr).length + ([] : List Keyword).length + (if ([] : List Keyword).isEmpty then 0 else 1) < 30)) = true := by rfl)
    (hline : (apos.endLine == pos.line) = true := by rfl) (hs : starEach [b] X.env = (false, eval b X.env) :: starEach [] X.env := by rfl) (hplain : (backTo pos (starEach [] X.env)).any (·.1) = false := by rfl) :
    Ev X M os δ (.Call (.Attribute a "append" apos) [b] [] pos) .non (os2.set i (.lst (ds ++ [d]))) :=
  pe_imp (pe_bm F.plainAttrs_list F.slot_list_append F.type_list_append mt_append ha hb hbase hfew hline hs hplain) fun σ H Q ⟨s, en, k⟩ => ⟨s, en, fun v H1 k1 s1 r1 => by
    cases r1
    obtain ⟨xs1, h1, _⟩ := s1.lst hi ho1
    refine ⟨.inl ⟨rfl, _, .inl (.of h1)⟩, s1, en.keep k1, fun vs H2 k2 s2 r2 => ?_⟩
    obtain ⟨u, ev, ru⟩ := r2.one
    subst ev
    obtain ⟨xs, h2, rx⟩ := s2.lst hi ho
    have kS : Keep M H2 (upd H2 L (.lst (xs ++ [u]))) := Keep.set (List.mem_of_getElem? hi)
    refine ⟨L, xs, u, rfl, rfl, h2, by rw [rx.length, sizeLine_eq]; omega, k _ _ ((k1.trans k2).trans kS) ?_ .non⟩
    exact s2.put hi kS (fun b hb _ => upd_ne hb) ⟨xs ++ [u], upd_same, (rx.append (.cons ru .nil)).keep kS⟩⟩
/-- L[j] -/
theorem ev_ixM (i : Nat) {j : Int} (ha : Ev X M os δ a (.adr L) os1) (hb : Ev X M os1 δ b (.int j) os2) (hi : M[i]? = some L) (ho : os2[i]? = some (.lst ds)) (hx : atI ds j = some d) (hs : PlainIx b := by exact fun _ _ => rfl) : Ev X M os δ (.Subscript a b pos) d os2 :=
  pe_imp (pe_ix ix_list ha hb hs) fun σ H Q ⟨s, en, kq⟩ => ⟨s, en, fun v H1 k1 s1 r1 => ⟨s1, en.keep k1, fun w H2 k2 s2 r2 => by
    cases r2
    cases r1
    obtain ⟨xs, h2, rx⟩ := s2.lst hi ho
    obtain ⟨z, hz, rz⟩ := atI_RA rx hx
    exact ⟨_, _, _, z, rfl, rfl, .inl (.of h2), hz, kq _ _ (k1.trans k2) s2 rz⟩⟩⟩
/-- x = [] .., the list told of from here on -/
theorem stm_new (i : Nat) {x : Str} {py p1 : Pos} (hN : X.N.Nodup) (hr : ∀ L, Stm X (L :: M) (.lst [] :: os) (δ.set i (some (.adr L))) rest k) (hi : X.N[i]? = some x := by rfl) (hx : Loc X.env.scope x := by first | exact Or.inl rfl | exact Or.inr rfl)
    (hs : swapsWith (.List [] p1) (some (.Name x py)) pos.line X.env = pure false := by rfl) (hf : X.fn x = true ∨ X.env.scope.names.lookup x = some .local := by first | exact .inl rfl | exact .inr rfl) : Stm X M os δ (.Assign [.Name x py] (.List [] p1) pos :: rest) k := by
  have hrest : PSs X rest (fun Dn σ H => ∃ L, tS (L :: M) (.lst [] :: os) (δ.set i (some (.adr L))) k Dn σ H) := ⟨fun pins s σ H Dn I ⟨L, w⟩ => (hr L).run pins s σ H Dn I w⟩
  exact pss_imp (pss_cons (ps_set hN hi hx (pe_lst pa_nil) hs hf) hrest) fun Dn σ H ⟨s, en, n, r⟩ => ⟨Nat.zero_le _, fun L hL => ⟨L, s.more hL (Ext.new hL) ⟨[], upd_same, .nil⟩, ((en.more hL).keep (Ext.new hL).keep).set i (.adr L),
    fun σ' H' δ' os' k1 => n σ' H' δ' os' (Keep.fill hL k1), fun v d H' os' k1 => r v d H' os' (Keep.fill hL k1)⟩⟩
/-- the list is a datum from here on -/
theorem stm_frz (i : Nat) (hl : δ[i]? = some (some (.adr L))) (hr : Stm X M os (δ.set i (some (.lst ds))) rest k) : Stm X (L :: M) (.lst ds :: os) δ rest k :=
  pss_imp hr fun Dn σ H ⟨s, en, n, r⟩ => by
    obtain ⟨xs, h1, hx⟩ := s.lst (i := 0) (L := L) (ds := ds) rfl rfl
    have hM : L ∉ M := (List.nodup_cons.mp s.nd).1
    have dr : Drp (L :: M) (.lst ds :: os) M os := Drp.refl.cons
    refine ⟨s.less, ?_, fun σ' H' δ' os' k1 => n σ' H' δ' os' ⟨fun a o h => k1.old a o fun z => h (List.mem_cons_of_mem _ z), k1.dom⟩, fun v d H' os' k1 => r v d H' os' ⟨fun a o h => k1.old a o fun z => h (List.mem_cons_of_mem _ z), k1.dom⟩⟩
    have e1 := dr.en en
    refine ⟨by rw [List.length_set]; exact e1.len, fun j d h => ?_⟩
    by_cases q : i = j
    · subst q
      obtain ⟨hlt, _⟩ := List.getElem?_eq_some_iff.mp hl
      rw [List.getElem?_set_self hlt] at h
      cases h
      obtain ⟨v, h2, h3⟩ := e1.at_ i _ hl
      cases h3
      exact ⟨_, h2, .lst h1 hM (hx.sub fun b _ n z => n (List.mem_cons_of_mem _ z))⟩
    · rw [List.getElem?_set_ne q] at h
      exact e1.at_ j d h
/-! ### arguments among which a list is made -/
def tAM (M : List Addr) (os : List MO) (δ : List (Option D)) (ds : Addr → List D) (o : MO) (os' : List MO) : TA := fun σ H Q => Sok M os H ∧ EnvR M H σ δ ∧ ∀ L vs H1 H', Keep M H H1 → H1 L = none → Keep (L :: M) H1 H' → Sok (L :: M) (o :: os') H' → RA (L :: M) H' vs (ds L) → Q vs H'
abbrev ArgM (X : Cx) (M : List Addr) (os : List MO) (δ : List (Option D)) (es : List Expr) (ds : Addr → List D) (o : MO) (os' : List MO) : Prop := PA X es (tAM M os δ ds o os')
theorem argM_here {es : List Expr} {p1 : Pos} {fs : Addr → List D} {o : MO} (hr : ∀ L, Arg X (L :: M) (.lst [] :: os) δ es (fs L) (o :: os1)) (hs : starEach (.List [] p1 :: es) X.env = (false, eval (.List [] p1) X.env) :: starEach es X.env := by rfl) : ArgM X M os δ (.List [] p1 :: es) (fun L => .adr L :: fs L) o os1 := by
  have hrest : PA X es (fun σ H Q => ∃ L, tA (L :: M) (.lst [] :: os) δ (fs L) (o :: os1) σ H Q) := ⟨fun pos pins s σ H Q I ⟨L, w⟩ => (hr L).run pos pins s σ H Q I w⟩
  exact pa_imp (pa_cons (pe_lst pa_nil) hrest hs) fun σ H Q ⟨s, en, kq⟩ => ⟨Nat.zero_le _, fun L hL => ⟨L, s.more hL (Ext.new hL) ⟨[], upd_same, .nil⟩, (en.more hL).keep (Ext.new hL).keep,
    fun vs H2 k2 s2 r2 => kq L _ _ _ .refl hL (Keep.trans (Ext.new hL).keep k2) s2 (.cons (.adr L) r2)⟩⟩
theorem argM_cons {es : List Expr} {fs : Addr → List D} {o : MO} (h : Ev X M os δ e d os1) (hr : ArgM X M os1 δ es fs o os2) (hs : starEach (e :: es) X.env = (false, eval e X.env) :: starEach es X.env := by rfl) : ArgM X M os δ (e :: es) (fun L => d :: fs L) o os2 :=
  pa_imp (pa_cons h hr hs) fun σ H Q ⟨s, en, kq⟩ => ⟨s, en, fun v H1 k1 s1 r1 => ⟨s1, en.keep k1, fun L vs H2 H3 k2 hL k3 s3 r3 => kq L _ _ _ (k1.trans k2) hL k3 s3 (.cons (((r1.keep k2).more hL).keep k3) r3)⟩⟩
theorem stm_par2M (i j : Nat) {x y : Str} {px py pt : Pos} {kt k2 : Nat} {pt2 : Pos} {d1 d2 : Addr → D} {o : MO} (ha : ArgM X M os δ [a, b] (fun L => [d1 L, d2 L]) o os1) (hc : X.calm = true) (hN : X.N.Nodup) (hr : ∀ L, Stm X (L :: M) (o :: os1) ((δ.set i (some (d1 L))).set j (some (d2 L))) rest k) (hi : X.N[i]? = some x := by rfl) (hj : X.N[j]? = some y := by rfl) (hij : i ≠ j := by decide)
    (hx : X.env.scope.names.lookup x = some .local := by rfl) (hy : X.env.scope.names.lookup y = some .local := by rfl) (hw : swappedStores [.Tuple [.Name x px, .Name y py] kt pt] (.Tuple [a, b] k2 pt2) X.env = pure (some [x, y]) := by rfl)
    (hs : swapsWithSole [.Tuple [.Name x px, .Name y py] kt pt] (.Tuple [a, b] k2 pt2) pos.line X.env = pure false := by rfl) : Stm X M os δ (.Assign [.Tuple [.Name x px, .Name y py] kt pt] (.Tuple [a, b] k2 pt2) pos :: rest) k := by
  have hrest : PSs X rest (fun Dn σ H => ∃ L, tS (L :: M) (o :: os1) ((δ.set i (some (d1 L))).set j (some (d2 L))) k Dn σ H) := ⟨fun pins s σ H Dn I ⟨L, w⟩ => (hr L).run pins s σ H Dn I w⟩
  exact pss_imp (pss_cons (ps_par hc hN hi hj hij hx hy ha hw hs) hrest) fun Dn σ H ⟨s, en, n, r⟩ => ⟨s, en, fun L vs H1 H2 k1 hL k2 s1 r1 => by
    cases r1 with
    | cons r1 r2 =>
      cases r2 with
      | cons r2 r3 =>
        cases r3
        exact ⟨_, _, rfl, L, s1, (((((en.keep k1).more hL).keep k2).set i r1).set j r2), fun σ' H' δ' os' k3 => n σ' H' δ' os' (k1.trans (Keep.fill0 hL (k2.trans k3))), fun v d H' os' k3 => r v d H' os' (k1.trans (Keep.fill0 hL (k2.trans k3)))⟩⟩
theorem stm_par3 (i j l : Nat) {x y z : Str} {px py pz pt : Pos} {kt k2 : Nat} {pt2 : Pos} {d1 d2 d3 : D} (ha : Arg X M os δ [a, b, c] [d1, d2, d3] os1) (hc : X.calm = true) (hN : X.N.Nodup) (hr : Stm X M os1 (((δ.set i (some d1)).set j (some d2)).set l (some d3)) rest k) (hi : X.N[i]? = some x := by rfl) (hj : X.N[j]? = some y := by rfl) (hl : X.N[l]? = some z := by rfl) (hij : i ≠ j := by decide) (hil : i ≠ l := by decide) (hjl : j ≠ l := by decide)
    (hx : X.env.scope.names.lookup x = some .local := by rfl) (hy : X.env.scope.names.lookup y = some .local := by rfl) (hz : X.env.scope.names.lookup z = some .local := by rfl) (hw : swappedStores [.Tuple [.Name x px, .Name y py, .Name z pz] kt pt] (.Tuple [a, b, c] k2 pt2) X.env = pure (some [x, y, z]) := by rfl)
    (hs : swapsWithSole [.Tuple [.Name x px, .Name y py, .Name z pz] kt pt] (.Tuple [a, b, c] k2 pt2) pos.line X.env = pure false := by rfl) : Stm X M os δ (.Assign [.Tuple [.Name x px, .Name y py, .Name z pz] kt pt] (.Tuple [a, b, c] k2 pt2) pos :: rest) k :=
  pss_imp (pss_cons (ps_par3 hc hN hi hj hl hij hil hjl hx hy hz ha hw hs) hr) fun Dn σ H ⟨s, en, n, r⟩ => ⟨s, en, fun vs H1 k1 s1 r1 => by
    cases r1 with
    | cons r1 r2 =>
      cases r2 with
      | cons r2 r3 =>
        cases r3 with
        | cons r3 r4 =>
          cases r4
          exact ⟨_, _, _, rfl, tS_go k1 s1 ((((en.keep k1).set i r1).set j r2).set l r3) n r⟩⟩
theorem stm_par3M (i j l : Nat) {x y z : Str} {px py pz pt : Pos} {kt k2 : Nat} {pt2 : Pos} {d1 d2 d3 : Addr → D} {o : MO} (ha : ArgM X M os δ [a, b, c] (fun L => [d1 L, d2 L, d3 L]) o os1) (hc : X.calm = true) (hN : X.N.Nodup) (hr : ∀ L, Stm X (L :: M) (o :: os1) (((δ.set i (some (d1 L))).set j (some (d2 L))).set l (some (d3 L))) rest k) (hi : X.N[i]? = some x := by rfl) (hj : X.N[j]? = some y := by rfl) (hl : X.N[l]? = some z := by rfl) (hij : i ≠ j := by decide) (hil : i ≠ l := by decide) (hjl : j ≠ l := by decide)
    (hx : X.env.scope.names.lookup x = some .local := by rfl) (hy : X.env.scope.names.lookup y = some .local := by rfl) (hz : X.env.scope.names.lookup z = some .local := by rfl) (hw : swappedStores [.Tuple [.Name x px, .Name y py, .Name z pz] kt pt] (.Tuple [a, b, c] k2 pt2) X.env = pure (some [x, y, z]) := by rfl)
    (hs : swapsWithSole [.Tuple [.Name x px, .Name y py, .Name z pz] kt pt] (.Tuple [a, b, c] k2 pt2) pos.line X.env = pure false := by rfl) : Stm X M os δ (.Assign [.Tuple [.Name x px, .Name y py, .Name z pz] kt pt] (.Tuple [a, b, c] k2 pt2) pos :: rest) k := by
  have hrest : PSs X rest (fun Dn σ H => ∃ L, tS (L :: M) (o :: os1) (((δ.set i (some (d1 L))).set j (some (d2 L))).set l (some (d3 L))) k Dn σ H) := ⟨fun pins s σ H Dn I ⟨L, w⟩ => (hr L).run pins s σ H Dn I w⟩
  exact pss_imp (pss_cons (ps_par3 hc hN hi hj hl hij hil hjl hx hy hz ha hw hs) hrest) fun Dn σ H ⟨s, en, n, r⟩ => ⟨s, en, fun L vs H1 H2 k1 hL k2 s1 r1 => by
    cases r1 with
    | cons r1 r2 =>
      cases r2 with
      | cons r2 r3 =>
        cases r3 with
        | cons r3 r4 =>
          cases r4
          exact ⟨_, _, _, rfl, L, s1, ((((((en.keep k1).more hL).keep k2).set i r1).set j r2).set l r3), fun σ' H' δ' os' k3 => n σ' H' δ' os' (k1.trans (Keep.fill0 hL (k2.trans k3))), fun v d H' os' k3 => r v d H' os' (k1.trans (Keep.fill0 hL (k2.trans k3)))⟩⟩
/-- l + m of lists, the left one told of -/
theorem ev_catM (i : Nat) (ha : Ev X M os δ a (.adr L) os1) (hb : Ev X M os1 δ b (.lst es') os2) (hi : M[i]? = some L) (ho : os2[i]? = some (.lst ds)) (hz : ds.length + es'.length ≤ 1000000) : Ev X M os δ (.BinOp a .Add b pos) (.lst (ds ++ es')) os2 := by
  exact pe_imp (pe_op op_cat ha hb) fun σ H Q ⟨s, en, kq⟩ => ⟨s, en, fun v H1 k1 s1 r1 => ⟨s1, en.keep k1, fun w H2 k2 s2 r2 => by
    cases r1
    obtain ⟨xs, h2, rx⟩ := s2.lst hi ho
    cases r2 with
    | @lst q ys _ h3 hm hr =>
      exact ⟨L, q, xs, ys, rfl, rfl, h2, h3, by rw [rx.length, hr.length]; exact sz_ok hz, fun p hp => kq _ _ ((k1.trans k2).trans (Ext.new hp).keep) (s2.ext (Ext.new hp)) (new_lst s2 hp (rx.append hr))⟩⟩⟩
end
end PW
namespace PW
open PySem PySem.Spec PyProof.Rows L2
section
variable {X : Cx} {M : List Addr} {os os1 os2 os3 : List MO} {δ δ' : List (Option D)} {tg e a b c : Expr} {pos p : Pos} {d : D} {rest : List Stmt} {k : Kt}
theorem tst_eq {b b' : Bool} (h : Tst X M os δ e b os1) (q : b = b') : Tst X M os δ e b' os1 := q ▸ h
theorem filter_true {α : Type} (xs : List α) : (xs.filter fun _ => true) = xs := by simp
theorem ev_lc0 {α : Type} {iter elt : Expr} {scope : Scope} {own : List (Str × Nat)} {sl : List Nat} {φ} (xs : List α) (enc : α → D) (v : α → D) (hi : Wk X M os δ tg iter (xs.map enc) os1) (ok : BlkOk X.N X.env.scope scope own)
    (hg : ∀ L s H C cl fp, Tgt (Cx.bk X scope s H C cl fp) (L :: M) tg sl φ) (hb : ∀ x ∈ xs, ∃ δ2, φ (enc x) (wipeD δ (own.map (·.2))) = some δ2 ∧ ∀ (L : Addr) (acc : List D) s H C cl fp, Ev (Cx.bk X scope s H C cl fp) (L :: M) (.lst acc :: os1) δ2 elt (v x) (.lst acc :: os1)) (hz : xs.length ≤ 100000) (hc : X.calm = true) (hN : X.N.Nodup)
    (hd : .lst (xs.map v) = d := by rfl) (hv : ∀ j ∈ sl, j ∈ own.map (·.2) := by decide) (hs : ∀ x, foldedSetIterable iter X.env x = pure x := by intro _; rfl) :
    Ev X M os δ (.ListComp elt [⟨tg, iter, [], 0⟩] scope pos) d os1 := by
  have h := ev_lc (pos := pos) xs enc (fun _ => true) v hi ok hg (fun x hx => by
    obtain ⟨δ2, h1, h2⟩ := hb x hx
    exact ⟨δ2, h1, fun L acc => ⟨fun s H C cl fp => tsts_nil, fun _ => h2 L acc⟩⟩) hz hc hN hv hs
  rw [filter_true, hd] at h
  exact h
theorem stm_setLc0 (i : Nat) {y : Str} {py : Pos} {spos : Pos} {α : Type} {iter elt : Expr} {scope : Scope} {own : List (Str × Nat)} {sl : List Nat} {φ} (xs : List α) (enc : α → D) (v : α → D) (hi : Wk X M os δ tg iter (xs.map enc) os1) (ok : BlkOk X.N X.env.scope scope own)
    (hg : ∀ L s H C cl fp, Tgt (Cx.bk X scope s H C cl fp) (L :: M) tg sl φ) (hb : ∀ x ∈ xs, ∃ δ2, φ (enc x) (wipeD δ (own.map (·.2))) = some δ2 ∧ ∀ (L : Addr) (acc : List D) s H C cl fp, Ev (Cx.bk X scope s H C cl fp) (L :: M) (.lst acc :: os1) δ2 elt (v x) (.lst acc :: os1)) (hz : xs.length ≤ 100000) (hc : X.calm = true) (hN : X.N.Nodup)
    (hr : Stm X M os1 (δ.set i (some (.lst (xs.map v)))) rest k)
    (hy : X.N[i]? = some y := by rfl) (hyl : X.env.scope.names.lookup y = some .local := by rfl) (hsw : swapsWith (.ListComp elt [⟨tg, iter, [], 0⟩] scope pos) (some (.Name y py)) spos.line X.env = pure true := by exact sw_true rfl rfl rfl (by decide +kernel)) (hv : ∀ j ∈ sl, j ∈ own.map (·.2) := by decide) (hs : ∀ x, foldedSetIterable iter X.env x = pure x := by intro _; rfl) :
    Stm X M os δ (.Assign [.Name y py] (.ListComp elt [⟨tg, iter, [], 0⟩] scope pos) spos :: rest) k :=
  stm_setLc (pos := pos) i xs enc (fun _ => true) v hi ok hg (fun x hx => by
    obtain ⟨δ2, h1, h2⟩ := hb x hx
    exact ⟨δ2, h1, fun L acc => ⟨fun s H C cl fp => tsts_nil, fun _ => h2 L acc⟩⟩) hz hc hN (by rw [filter_true]; exact hr) hy hyl hsw hv hs
/-- y = [..] where y is a cell (captured) -/
theorem cutD_1 {α : Type} (xs : List α) (h : xs.length ≤ 1000000) : cutD xs (some 1) none = xs.drop 1 := by
  cases xs with
  | nil => rfl
  | cons x xs =>
    have e1 : HT.sIx (x :: xs).length 0 (some 1) = 1 := by
      simp [HT.sIx]
    have e2 : HT.sIx (x :: xs).length (x :: xs).length none = (x :: xs).length := rfl
    unfold cutD
    rw [e1, e2, List.take_of_length_le]
    simp
theorem zip_map_enc {α : Type} (f : α → D) (xs ys : List α) : List.zipWith (fun x y => D.tup [x, y]) (xs.map f) (ys.map f) = (xs.zip ys).map fun q => D.tup [f q.1, f q.2] := by
  induction xs generalizing ys with
  | nil => rfl
  | cons x xs ih =>
    cases ys with
    | nil => rfl
    | cons y ys => simp [ih]
theorem rngD_map (lo : Int) (n : Nat) : rngD lo n = (List.range n).map fun i : Nat => D.int (lo + (i : Int)) := rfl
end
end PW
namespace PW
open PySem PySem.Spec PyProof.Rows L2
theorem atI_lastX {α : Type} {xs : List α} {x : α} (h : xs.getLast? = some x) : atI xs (-1) = some x := by
  cases xs with
  | nil => cases h
  | cons y ys =>
    have e : ixN (y :: ys).length (-1) = some ys.length := by
      simp [ixN]
      omega
    unfold atI
    rw [e]
    rw [List.getLast?_eq_getElem?] at h
    simpa using h
/-- the first place of an int -/
def ixF (ns : List Int) (x : Int) : Nat := ns.findIdx fun y => y == x
theorem ixF_at {ns : List Int} {x : Int} (h : x ∈ ns) : ns[ixF ns x]? = some x ∧ ∀ m, m < ixF ns x → ∀ z, ns[m]? = some z → z ≠ x := by
  have hl : ixF ns x < ns.length := List.findIdx_lt_length_of_exists ⟨x, h, by simp⟩
  refine ⟨?_, fun m hm z hz e => ?_⟩
  · rw [List.getElem?_eq_getElem hl]
    have h2 : ((fun y => y == x) ns[ixF ns x]) = true := List.findIdx_getElem (w := hl) (p := fun y => y == x) (xs := ns)
    have h3 : ns[ixF ns x] = x := by simpa using h2
    rw [h3]
  · have h1 : m < ns.length := by omega
    have := List.not_of_lt_findIdx (p := fun y => y == x) (xs := ns) hm
    rw [List.getElem?_eq_getElem h1] at hz
    have hz2 : ns[m] = z := Option.some.inj hz
    simp [hz2, e] at this
section
variable {X : Cx} {M : List Addr} {os os1 os2 os3 : List MO} {δ δ' : List (Option D)} {a b c : Expr} {pos p : Pos} {d : D}
theorem ev_index {apos : Pos} {ns : List Int} {x : Int} (ha : Ev X M os δ a (.lst (ns.map D.int)) os1) (hb : Arg X M os1 δ [b] [.int x] os2) (hx : x ∈ ns) (hz : ns.length ≤ 1000000)
    (hbase : attributeBase a "index" X.env (eval a X.env) = eval a X.env := by rfl)
    (hfew : ((backTo pos (starEach [b] X.env)).all (fun x => !x.1) && (backToKw pos (keywordEach [] X.env)).all (fun x => x.1.isSome) && decide (([b] : List Expr).length + ([] : List Keyword).length + (if ([] : List Keyword).isEmpty then 0 else 1) < 30)) = true := by rfl)
    (hline : (apos.endLine == pos.line) = true := by rfl) (hs : starEach [b] X.env = (false, eval b X.env) :: starEach [] X.env := by rfl) (hplain : (backTo pos (starEach [] X.env)).any (·.1) = false := by rfl) :
    Ev X M os δ (.Call (.Attribute a "index" apos) [b] [] pos) (.int (ixF ns x : Nat)) os2 :=
  pe_imp (pe_bm F.plainAttrs_list F.slot_list_index F.type_list_index mt_index ha hb hbase hfew hline hs hplain) fun σ H Q ⟨s, en, k⟩ => ⟨s, en, fun v H1 k1 s1 r1 => by
    cases r1 with
    | @lst q xs _ h1 hm hr =>
      refine ⟨.inl ⟨rfl, _, .inl (.of h1)⟩, s1, en.keep k1, fun vs H2 k2 s2 r2 => ?_⟩
      obtain ⟨u, ev, ru⟩ := r2.one
      subst ev
      cases ru
      rw [hr.ints] at h1
      have h2 := k2.old _ _ hm h1
      obtain ⟨e1, e2⟩ := ixF_at hx
      have hl : ixF ns x < ns.length := (List.getElem?_eq_some_iff.mp e1).1
      refine ⟨q, ns.map V.int, .int x, ixF ns x, .int x, rfl, rfl, .inl (.of h2), rfl, ?_, ?_, ?_, ?_, k _ _ (k1.trans k2) s2 (.int _)⟩
      · rw [List.all_map, List.all_eq_true]
        intro y _
        rfl
      · rw [List.getElem?_map, e1]
        rfl
      · show (x == x) = true
        simp
      · intro m z hm hz
        rw [List.getElem?_map] at hz
        obtain ⟨y, hy, ey⟩ := Option.map_eq_some_iff.mp hz
        subst ey
        have := e2 m hm y hy
        show (y == x) = false
        simpa using this⟩
end
/-- the pairs of enumerate -/
def enL {α : Type} (xs : List α) (enc : α → D) : List D := xs.zipIdx.map fun q => .tup [.int (q.2 : Nat), enc q.1]
theorem enL_hd {α : Type} (xs : List α) (enc : α → D) (i : Nat) : (enL xs enc)[i]? = ((xs.map enc)[i]?).map fun d => D.tup [.int (i : Nat), d] := by
  unfold enL
  rw [List.getElem?_map, List.getElem?_zipIdx, List.getElem?_map]
  cases xs[i]? with
  | none => rfl
  | some x => simp
theorem enL_get {α : Type} {xs : List α} {enc : α → D} {i : Nat} {d : D} (h : (enL xs enc)[i]? = some d) : ∃ x, xs[i]? = some x ∧ d = .tup [.int (i : Nat), enc x] := by
  rw [enL_hd, List.getElem?_map] at h
  cases hx : xs[i]? with
  | none => rw [hx] at h; cases h
  | some x =>
    rw [hx] at h
    exact ⟨x, rfl, (Option.some.inj h).symm⟩
theorem cutD_to {α : Type} (xs : List α) (n : Nat) : cutD xs none (some (n : Int)) = xs.take n := by
  unfold cutD
  rw [HT.sIx_nat, HT.sIx_none, List.drop_zero, Nat.sub_zero]
  by_cases h : n ≤ xs.length
  · rw [Nat.min_eq_left h]
  · rw [Nat.min_eq_right (by omega), List.take_of_length_le (Nat.le_refl _), List.take_of_length_le (by omega)]
theorem cutD_from {α : Type} (xs : List α) (n : Nat) : cutD xs (some (n : Int)) none = xs.drop n := by
  unfold cutD
  rw [HT.sIx_nat, HT.sIx_none]
  by_cases h : n ≤ xs.length
  · rw [Nat.min_eq_left h, List.take_of_length_le (by simp)]
  · rw [Nat.min_eq_right (by omega), List.drop_of_length_le (Nat.le_refl _), List.drop_of_length_le (by omega)]
    simp
end PW
namespace PW
open PySem PySem.Spec PyProof.Rows L2
/-! ### defs that may ask for a text of their data: nothing is being written around them -/
structure FnG (P : Program) (w : World) (K : PySem.W.Frag) (mg : Str → Option Value) (base : Heap) (k : Nat) (f : Addr) (fd : FuncData) (ps : List Str) (sp : Sp) : Prop where
  len : ∀ vs H Q E, sp vs H Q E → vs.length = ps.length
  run : ∀ (A : Around) (outer : List Env) (s : Shared) (H : Hp) (args : Args) (us : List Value) (vs : List V) (Q : VK) (E : XK), Room k A → A.guards = some [] → Env0 P w K mg base A outer s H → BindsTo s fd args (ps.zip us) → Vals vs us → sp vs H Q E →
    codeAny (model P w) A (.call (.ref f) args) (L2.CR C8.CX0 outer P w H s Q E) s
section
variable {P : Program} {w : World} {K : PySem.W.Frag} {mg : Str → Option Value} {base : Heap}
theorem fnG_of {x qual : Str} {params : Arguments} {body : List Stmt} {scope : Scope} {dvs : List V} {kws : List (Str × V)} {f : Addr} {fd : FuncData} {N ps : List Str} {k : Nat} {sp : Sp} (F : FunD K x qual params body scope dvs kws f fd) (S : FnScope N ps scope) (len : ∀ vs H Q E, sp vs H Q E → vs.length = ps.length)
    (hbody : ∀ (cdv : Value) (A : Around) (outer : List Env) (s : Shared) (H : Hp) (vs : List V) (Q : VK) (E : XK), Room k (A.deeper (envOfC qual scope s.heap.objs.size f cdv)) → A.guards = some [] → sp vs H Q E →
      ∃ t, PSs (cxOf C8.CX0 P w K mg base N qual scope f cdv A outer s H E).nox body t ∧ t { nx := fun _ H' => Q .non H', rt := Q } (L2.start N vs) H) : FnG P w K mg base (k + 1) f fd ps sp := by
  obtain ⟨oc, od, dV, kV, doc, pm, an, cdv, ct, osl, hfd, lk, hcd, _, _⟩ := F.ex
  subst hfd
  refine ⟨len, fun A outer s H args us vs Q E hr hg e0 hb r hsp => ?_⟩
  have hl := len _ _ _ _ hsp
  have keepB : ∀ b o, base.get? b = some o → s.heap.get? b = some o := fun b o e => (e0.bs b o e).1
  have KX : K.In s.heap := e0.mod.kin.keeps keepB
  have kinds : ∀ y ∈ ps.zip us, scope.names.lookup y.1 = some .local ∨ (scope.names.lookup y.1 = some .cell ∧ ((cellsFrom (s.heap.objs.size + 1) scope.names []).lookup y.1).isSome = true) := by
    intro y hy
    rcases S.par y.1 (List.of_mem_zip hy).1 with q | q
    · exact .inl q
    · exact .inr ⟨q, PySem.W.cellsFrom_some _ _ _ (.inl q)⟩
  refine codeAny_call_function hr.depth (KX _ _ lk) rfl S.co S.gen rfl (PySem.W.codeRec_of KX hcd) (hb _ _ _ _ (wpAny_newFunctionEnv_cells S.kind kinds fun env he s1 x => ?_))
  subst he
  refine ⟨(e0.mod.nolimit.keeps keepB).keeps x.toInCall.keep, codeAny_func ?_⟩
  obtain ⟨t, ht, hq⟩ := hbody cdv A outer s H vs Q E (hr.deeper _) hg hsp
  have I := inv_start (CX := C8.CX0) (E := E) S hr.hd e0 hl r x
  refine wpAny_mono (ht.nox.run [] s1 (L2.start N vs) H _ I hq) (fun fl s' hs => ?_) fun e s' hs => hs
  cases fl with
  | ret u =>
    obtain ⟨v, σ', H', J, rv, q⟩ := hs
    exact ⟨v, H', J.os, J.bare, J.base, J.hok, rv, q⟩
  | next =>
    obtain ⟨σ', H', J, q⟩ := hs
    exact ⟨V.non, H', J.os, J.bare, J.base, J.hok, rfl, q⟩
  | brk =>
    obtain ⟨_, _, _, q⟩ := hs
    exact False.elim q
  | cont =>
    obtain ⟨_, _, _, q⟩ := hs
    exact False.elim q
structure ClG (P : Program) (w : World) (K : PySem.W.Frag) (mg : Str → Option Value) (base : Heap) (k : Nat) (x : Str) (C : Ctr) : Prop where
  ex : ∃ (f : Addr) (fd : FuncData) (ps : List Str), FnG P w K mg base k f fd ps (spR C) ∧ mg x = some (.ref f) ∧ PySem.W.keepIn K (.ref f) = true ∧ Binds K fd ps []
theorem clG_ok {x : Str} {st : Stmt} {N ps : List Str} {k : Nat} {C : Ctr} (h : HasD K mg x st) (S : FnScope N ps (defScope st))
    (hb : ∀ (kV doc pm : Value) (an : Option Addr) (cdv ct : Value) (us : List Value), us.length = ps.length → bindArgs (PySem.W.fnOf x x (defArgs st) (defBody st) (defScope st) .none kV doc pm an cdv ct) ⟨us, []⟩ = pure (ps.zip us))
    (hl : ∀ M ds os d os', C M ds os d os' → ds.length = ps.length)
    (body : ∀ (f : Addr) (cdv : Value) (A : Around) (outer : List Env) (s : Shared) (H : Hp) (E : XK), Room k (A.deeper (envOfC x (defScope st) s.heap.objs.size f cdv)) → A.guards = some [] →
      Bdy (cxOf C8.CX0 P w K mg base N x (defScope st) f cdv A outer s H E).nox N (defBody st) C) : ClG P w K mg base (k + 1) x C := by
  obtain ⟨f, fd, F, hm⟩ := h.ex
  exact ⟨f, fd, ps, fnG_of F S (spR_len hl) fun cdv A outer s H vs Q E hr hg hsp => bdy_ok (body f cdv A outer s H E hr hg) hsp, hm, F.kp, F.bindsN hb⟩
end
section
variable {X : Cx} {M : List Addr} {os os1 os2 os3 : List MO} {δ : List (Option D)} {a b c e : Expr} {pos p : Pos} {d da db : D} {j n k : Nat} {x : Str} {C : Ctr} {es : List Expr} {ds : List D}
theorem ev_callG (c : ClG X.prog X.w X.K X.mg X.base k x C) (hgu : X.A.guards = some []) (hr : Room j X.A) (ha : Arg X M os δ (e :: es) ds os1) (hC : C M ds os1 d os2) (hk : k ≤ j := by decide) (hg : Gl X x := by rfl) (hdb : (x == ("__debug__" : Str)) = false := by decide)
    (he : starEach (e :: es) X.env = (false, eval e X.env) :: starEach es X.env := by rfl) (hpl : (backTo pos (starEach es X.env)).any (·.1) = false := by rfl) : Ev X M os δ (.Call (.Name x p) (e :: es) [] pos) d os2 := by
  obtain ⟨f, fd, ps, F, hm, kp, bi⟩ := c.ex
  refine ⟨fun pins s σ H Q I ⟨so, en, kq⟩ => ?_⟩
  refine wpAny_Call_Name_kw (ld_glob I hg hm ?_ hdb)
  refine PySem.W.callWith_K (h₀ := X.base) I.ok.mod.kin kp (thn (ha.run pos pins s σ H _ I ⟨so, en, fun vs H1 k1 s1 r1 => (⟨k1, s1, r1⟩ : Keep M H H1 ∧ Sok M os1 H1 ∧ RA M H1 vs ds)⟩) fun us s1 ⟨vs, H1, I1, r, k1, so1, ra⟩ => ⟨I1.kIn, ?_⟩) he hpl
  have hsp : spR C vs H1 Q C8.E0 := ⟨M, os1, ds, d, os2, so1, ra, hC, fun v H2 k2 s2 r2 => kq v H2 (k1.trans k2) s2 r2⟩
  have hl : (us ++ []).length = ps.length := by
    rw [List.append_nil, ← r.length]
    exact F.len _ _ _ _ hsp
  have bb := bi s1 us I1.kIn hl
  rw [List.append_nil] at bb
  refine wpAny_call (codeAny_mono (F.run X.A X.stack s1 H1 ⟨us, []⟩ us vs Q C8.E0 (hr.mono hk) hgu I1.env0 bb r hsp) fun r s' hq => ?_)
  cases r with
  | error er => exact False.elim hq
  | ok fl =>
    cases fl with
    | ret u => exact I1.after hq
    | next => exact False.elim hq
    | brk => exact False.elim hq
    | cont => exact False.elim hq

/-! ### repr -/
mutual
/-- the ints within are not large -/
def smD : D → Bool
  | .int i => decide (-999999999999 ≤ i) && decide (i ≤ 999999999999)
  | .str x => false
  | .tup ds => smA ds
  | .lst ds => smA ds
  | _ => true
def smA : List D → Bool
  | [] => true
  | d :: ds => smD d && smA ds
end
mutual
def wtD : D → Nat
  | .int _ => 41
  | .tup ds => wtA ds
  | .lst ds => wtA ds
  | _ => 0
def wtA : List D → Nat
  | [] => 0
  | d :: ds => wtD d + 1 + wtA ds
end
theorem int_short {i : Int} (h1 : -999999999999 ≤ i) (h2 : i ≤ 999999999999) : PyData.intsShort 13 (.int i) = true := by
  simp only [PyData.intsShort, decide_eq_true_eq]
  exact PyData.shown_int_le2 (by omega) (by omega)
theorem log_sm {i : Int} (h1 : -999999999999 ≤ i) (h2 : i ≤ 999999999999) : i.natAbs.log2 < 40 := by
  by_cases h : i.natAbs = 0
  · rw [h]
    decide
  · rw [Nat.log2_lt h]
    have : (2 : Nat) ^ 40 = 1099511627776 := by decide
    omega
mutual
theorem smD_ok : ∀ (d : D), smD d = true → (pdD d).intsShort 13 = true ∧ (pdD d).showable = true ∧ (pdD d).weight ≤ wtD d
  | .int i, h => by
    simp only [smD, Bool.and_eq_true, decide_eq_true_eq] at h
    have q := log_sm h.1 h.2
    refine ⟨int_short h.1 h.2, ?_, ?_⟩
    · simp only [pdD, PyData.showable, decide_eq_true_eq]
      omega
    · simp only [pdD, PyData.weight, wtD]
      split <;> omega
  | .tup ds, h => by
    obtain ⟨a, b, c⟩ := smA_ok ds (by simpa [smD] using h)
    exact ⟨by simpa [pdD, PyData.intsShort] using a, by simpa [pdD, PyData.showable] using b, by simpa [pdD, PyData.weight, wtD] using c⟩
  | .lst ds, h => by
    obtain ⟨a, b, c⟩ := smA_ok ds (by simpa [smD] using h)
    exact ⟨by simpa [pdD, PyData.intsShort] using a, by simpa [pdD, PyData.showable] using b, by simpa [pdD, PyData.weight, wtD] using c⟩
  | .str x, h => by simp [smD] at h
  | .non, _ => ⟨rfl, rfl, by simp [pdD, PyData.weight]⟩
  | .bl b, _ => ⟨rfl, rfl, by simp [pdD, PyData.weight]⟩
  | .dic _ _, _ => ⟨rfl, rfl, by simp [pdD, PyData.weight]⟩
  | .adr _, _ => ⟨rfl, rfl, by simp [pdD, PyData.weight]⟩
  | .ty _, _ => ⟨rfl, rfl, by simp [pdD, PyData.weight]⟩
theorem smA_ok : ∀ (ds : List D), smA ds = true → PyData.intsShortAll 13 (pdA ds) = true ∧ PyData.showableAll (pdA ds) = true ∧ PyData.weightAll (pdA ds) ≤ wtA ds
  | [], _ => ⟨rfl, rfl, by simp [pdA, PyData.weightAll]⟩
  | d :: ds, h => by
    simp only [smA, Bool.and_eq_true] at h
    obtain ⟨a1, a2, a3⟩ := smD_ok d h.1
    obtain ⟨b1, b2, b3⟩ := smA_ok ds h.2
    refine ⟨by simp [pdA, PyData.intsShortAll, a1, b1], by simp [pdA, PyData.showableAll, a2, b2], ?_⟩
    simp only [pdA, PyData.weightAll, wtA]
    omega
end
theorem smA_all : ∀ {ds : List D}, (∀ d ∈ ds, smD d = true) → smA ds = true
  | [], _ => rfl
  | d :: ds, h => by simp [smA, h d (by simp), smA_all (ds := ds) fun e he => h e (List.mem_cons_of_mem _ he)]
theorem wtA_le {m : Nat} : ∀ {ds : List D}, (∀ d ∈ ds, wtD d ≤ m) → wtA ds ≤ ds.length * (m + 1)
  | [], _ => by simp [wtA]
  | d :: ds, h => by
    have h1 := h d (by simp)
    have h2 := wtA_le (m := m) (ds := ds) fun e he => h e (List.mem_cons_of_mem _ he)
    rw [wtA, List.length_cons, Nat.succ_mul]
    omega
theorem cr_repr (hgu : X.A.guards = some []) (hr : Room j X.A) : CallR X (.builtin "repr") (fun xs H Q => ∃ (a : Addr) (d : PyData), xs = [V.ref a] ∧ Dp X.K H (.ref a) d ∧ d.layable0 = true ∧ d.showable = true ∧ d.intsShort 13 = true ∧ Q (.str d.shown) H) := by
  intro pins s σ H xs us Q I r h
  obtain ⟨a, d, rfl, hd, h1, h2, h3, q⟩ := h
  obtain ⟨u, rfl, rx⟩ := vals1 r
  cases (show u = Value.ref a from rx)
  obtain ⟨as, rd⟩ := Dp.reads I d _ _ hd rfl
  have hc : d.canLay0 = true := SeqAt.canLay_of_layable h1
  have hdp : d.depth ≤ 64 := SeqAt.depth_of_layable h1
  refine repr_of_reads' rd h2 (fun z => ?_) hgu (by have := hr.un; omega) (fun b o e => e) (fun h' u tk hk => ⟨.str d.shown, H, I.kept hk, ⟨_, rfl⟩, q⟩) (PyData.shown_fits_of_layable0 (B := 13) (by decide) (by decide) h1 h3)
  exact absurd z (by rw [PyData.hasDict_of_canLay d hc]; exact Bool.false_ne_true)
/-- the text of a list or a tuple of plain data -/
theorem b_repr (hgu : X.A.guards = some []) (hr : Room j X.A) (h1 : okD n d = true) (h2 : smD d = true) (h3 : wtD d ≤ 1048576) (hs : ∃ ds, d = .tup ds ∨ d = .lst ds) (hn : n ≤ 64 := by decide) : Blt X M os (.builtin "repr") [d] (.str (pdD d).shown) := ⟨_, cr_repr hgu hr, fun vs H Q s r k => by
  obtain ⟨v, ev, r1⟩ := r.one
  subst ev
  obtain ⟨a1, a2, a3⟩ := okD_dp (K := X.K) n d v h1 r1
  obtain ⟨b1, b2, b3⟩ := smD_ok d h2
  have hl : (pdD d).layable0 = true := by
    unfold PyData.layable0
    rw [a2, decide_eq_true (by omega : (pdD d).depth ≤ 64), decide_eq_true (by have : (2 : Nat) ^ 20 = 1048576 := by decide
                                                                               omega : (pdD d).weight ≤ 2 ^ 20)] <;> rfl
  obtain ⟨ds, rfl | rfl⟩ := hs
  · cases r1 with
    | @tup a xs _ h4 hm hx => exact ⟨a, _, rfl, a1, hl, b2, b1, k _ _ .refl (.str _)⟩
  · cases r1 with
    | @lst a xs _ h4 hm hx => exact ⟨a, _, rfl, a1, hl, b2, b1, k _ _ .refl (.str _)⟩⟩
end
end PW
namespace PW
open PySem PySem.Spec PyProof.Rows L2
/-! ### a, b, *rest = tuple -/
section
variable {prog : Program} {w : World} {A : Around} {E : Value → Shared → Prop} {s : Shared}
theorem unpack_rest {l : Addr} {its : Array Value} {i : Nat} {Q : List Value → Shared → Prop} (hl : IsTup s.heap l its) (hh : A.handled = none) (hi : i ≤ its.size) (hz : its.size ≤ 16384)
    (h : ∀ (h' : Heap) tk, (∀ b o, s.heap.get? b = some o → h'.get? b = some o) → Q (its.toList.take i ++ [.ref h'.objs.size]) { s with heap := h'.push { cls := .type "list", data := .seq (its.toList.drop i).toArray }, toks := tk }) :
    wpAny (model prog w) A (unpackItems (.ref l) (i + 1) (some i)) Q E s := by
  have hll : l < s.heap.objs.size := by
    obtain ⟨o, ho, _⟩ := hl
    exact Heap.lt_size ho
  have hlt : l ≠ s.heap.objs.size := Nat.ne_of_lt hll
  unfold unpackItems
  refine wpAny_bind ?_
  unfold notIterableAtAll
  refine wpAny_bind (wpAny_specialOf hl.typeIs slot_tuple_iter.lookup (wpAny_pure ?_))
  simp only [Bool.false_eq_true, if_false]
  refine wpAny_bind (wpAny_holding (iter_tuple hl (wpAny_bind (wpAny_holding (draw_tuple hlt i 0 _ _ ⟨_, Heap.get?_push_size _ rfl, rfl, rfl⟩ (hl.push _) (by omega) fun h₁ hit₁ hs₁ => ?_)))))
  have hl₁ : IsTup h₁ l its := (hl.push _).extBut hs₁.extBut hlt
  rw [Nat.zero_add] at hit₁
  obtain ⟨oi, hoi, _⟩ := id hit₁
  obtain ⟨ol, hol, _⟩ := id hl₁
  have l1 : (its.toList.take i).length = i := by
    rw [List.length_take, Array.length_toList]
    omega
  have l2 : (its.toList.drop i).length = its.size - i := by rw [List.length_drop, Array.length_toList]
  rw [List.drop_zero, if_neg (show ¬ ((its.toList.take i).length < i) by rw [l1]; omega)]
  refine wpAny_bind (wpAny_holding (PySem.W.kun_collect (s := { s with heap := h₁ }) (T := "tuple_iterator") (.inr (.inr (.inr rfl))) (Walks.tuple (A := A.in1) hh s.heap.objs.size l hlt its) (fun j u st => st.1.typeIs) (k := i) hi ⟨hit₁, hl₁⟩ (Heap.lt_size hoi) (Heap.lt_size hol) (fun h₂ tk hk => ?_) (by rw [sizeLine_eq]; omega)))
  show wpAny _ _ (if (its.toList.drop i).length < i + 1 - 1 - i then _ else _) _ _ _
  rw [if_neg (by omega)]
  show wpAny _ _ (newList ((its.toList.drop i).take ((its.toList.drop i).length - (i + 1 - 1 - i))) >>= fun d => pure (its.toList.take i ++ [d] ++ (its.toList.drop i).drop ((its.toList.drop i).length - (i + 1 - 1 - i)))) _ _ _
  have e0 : (its.toList.drop i).length - (i + 1 - 1 - i) = (its.toList.drop i).length := by omega
  have e1 : (its.toList.drop i).take ((its.toList.drop i).length - (i + 1 - 1 - i)) = its.toList.drop i := by rw [e0, List.take_length]
  have e2 : (its.toList.drop i).drop ((its.toList.drop i).length - (i + 1 - 1 - i)) = [] := by rw [e0, List.drop_length]
  rw [e1, e2]
  have keep : ∀ b o, s.heap.get? b = some o → h₂.get? b = some o := fun b o e => by
    have nb : b ≠ s.heap.objs.size := Nat.ne_of_lt (Heap.lt_size e)
    exact hk b o nb (hs₁.extBut b o nb (Heap.get?_push_of_some _ e))
  exact wpAny_bind (wpAny_newList (s := { s with heap := h₂, toks := tk }) (wpAny_pure (by
    rw [List.append_nil]
    exact h h₂ tk keep)) (by rw [l2, sizeLine_eq]; omega))
end

section
variable {X : Cx} {M : List Addr} {os os1 os2 os3 : List MO} {δ : List (Option D)} {pos p : Pos}
/-- the last target, starred: it takes the rest as a list -/
theorem pgs_rest {e : Expr} {t : TG} (h1 : PG X e t) (hs : (assignEach [.Starred e p] X.env).map (·.2) = [assign e X.env] := by rfl) : PGs X [.Starred e p] (gCons t gNil) := by
  refine ⟨fun pins s σ H vs us Q I r h => ?_⟩
  obtain ⟨v, vr, e1, h⟩ := h
  subst e1
  cases r with
  | cons r rr =>
    rw [hs]
    refine assignInOrder_cons (thn (h1.run pins s σ H _ _ _ I r h) fun _ s1 ⟨σ1, H1, I1, q1⟩ => ?_)
    obtain ⟨ee, q1⟩ := q1
    subst ee
    cases rr
    show wpAny _ _ (pure ()) _ _ _
    exact wpAny_pure ⟨σ1, H1, I1, q1⟩
theorem tgts_rest {e : Expr} {sl : List Nat} {φ} (h : Tgt X M e sl φ) (hs : (assignEach [.Starred e p] X.env).map (·.2) = [assign e X.env] := by rfl) : Tgts X M [.Starred e p] sl (fCons φ fNil) :=
  pgs_imp (pgs_rest h hs) fun v σ H Q ⟨ds, δ, δ', r, en, q, k⟩ => by
    cases r with
    | nil => cases q
    | cons r1 r2 =>
      obtain ⟨δ1, q1, q2⟩ := Option.bind_eq_some_iff.mp (show (φ _ δ).bind (fNil _) = some δ' from q)
      cases r2 with
      | cons _ _ => cases q2
      | nil =>
        cases q2
        exact ⟨_, _, rfl, _, δ, _, r1, en, q1, fun σ1 e1 w1 => ⟨rfl, k σ1 e1 w1⟩⟩
/-- a, b, *rest = tuple -/
theorem stm_rest {a b c e : Expr} {kk : Nat} {sl : List Nat} {ψ} {ds : List D} {δ' : List (Option D)} {rest : List Stmt} {k : Kt} {p3 : Pos} (he : Ev X M os δ e (.tup ds) os1) (hg : Tgts X M [a, b, .Starred c p] sl ψ) (hc : X.calm = true) (hl : 2 ≤ ds.length) (hz : ds.length ≤ 1000)
    (hφ : ψ (ds.take 2 ++ [.lst (ds.drop 2)]) δ = some δ') (hr : Stm X M os1 δ' rest k) (hn : (assignEach [a, b, .Starred c p] X.env).length = 3 := by rfl) (hst : (assignEach [a, b, .Starred c p] X.env).findIdx? (·.1) = some 2 := by rfl)
    (hs : swapsWithSole [.Tuple [a, b, .Starred c p] kk p3] e pos.line X.env = pure false := by rfl) (hw : swappedStores [.Tuple [a, b, .Starred c p] kk p3] e X.env = pure none := by rfl)
    (h1 : (assignEach [.Tuple [a, b, .Starred c p] kk p3] X.env).map (·.2) = [assign (.Tuple [a, b, .Starred c p] kk p3) X.env] := by rfl) : Stm X M os δ (.Assign [.Tuple [a, b, .Starred c p] kk p3] e pos :: rest) k := by
  have hG : PG X (.Tuple [a, b, .Starred c p] kk p3) (fun v σ H Q => ∃ q xs, v = .ref q ∧ H q = some (.tup xs) ∧ 2 ≤ xs.length ∧ xs.length ≤ 1000 ∧ ∀ L, H L = none → gDs M sl ψ (xs.take 2 ++ [.ref L]) σ (upd H L (.lst (xs.drop 2))) Q) := by
    refine ⟨fun pins s σ H v u Q I r hw => ?_⟩
    obtain ⟨q, xs, e1, hq, l1, l2, hw⟩ := hw
    subst e1
    cases (show u = Value.ref q from r)
    obtain ⟨its, rv, ht, hz⟩ := I.tuple (.inl (.of hq))
    have hlen := rv.length
    rw [PyProof.Rows.assign_Tuple]
    refine wpAny_bind (wpAny_standAt ?_)
    unfold unpack
    rw [hn, hst]
    refine wpAny_bind (wpAny_holding (unpack_rest (its := its.toArray) ht (I.ok.hd hc) (by rw [List.size_toArray]; omega) (by rw [List.size_toArray]; omega) fun h' tk hk => ?_))
    have I1 : Inv X pins σ H { s with heap := h', toks := tk } := I.kept hk
    have I2 := Inv.lnew (t' := tk) (its := its.drop 2) (ys := xs.drop 2) I1 (rv.drop 2) (by rw [List.length_drop, sizeLine_eq]; omega)
    refine hg.run pins _ σ _ (xs.take 2 ++ [.ref h'.objs.size]) _ Q I2 ?_ (hw h'.objs.size (I1.hok.fresh (Nat.le_refl _)))
    exact Vals.append (by simpa using rv.take 2) (.cons rfl .nil)
  exact pss_imp (pss_cons (ps_asg he hG hs hw h1) hr) fun Dn σ H ⟨s, en, n, r⟩ => ⟨s, en, fun v H1 k1 s1 r1 => by
    cases r1 with
    | @tup q xs _ h2 hm hx =>
      refine ⟨q, xs, rfl, h2, by rw [hx.length]; exact hl, by rw [hx.length]; exact hz, fun L hL => ?_⟩
      have ex := Ext.new (o := HO.lst (xs.drop 2)) hL
      refine ⟨_, δ, δ', RA.append ((hx.take 2).keep ex.keep) (.cons (new_lst s1 hL (hx.drop 2)) .nil), (en.keep k1).keep ex.keep, hφ, fun σ' e' _ => tS_go (k1.trans ex.keep) (s1.ext ex) e' n r⟩⟩
end
/-! ### (x,) * 1 -/
theorem tuple_mul1 (l : Addr) (items : Array Value) (n : Nat) (dd : Option Addr) (sl : Array (Option Value)) (u : Tok) :
    Meets (Builtin.«tuple.__mul__» ⟨[.ref l, .int 1 u], []⟩) (fun _ R s => s.heap.get? l = some { cls := .type "tuple", dict := dd, data := .seq items n, slots := sl } ∧ R (.ok (.ret (Value.ref l))) s) :=
  .of_wp fun prog w A R s h => by
    obtain ⟨hp, g, d, tk, os⟩ := s
    obtain ⟨hl, h⟩ := h
    have f1 := AutoSeq1.idx_int
    have c1 : (items.isEmpty || (1 : Int) == 1) = true := by simp
    wp_walk using AutoSeq1.wpAny_loadPart' hl
    exact ⟨_, rfl, h⟩
end PW
namespace PW
open PySem PySem.Spec PyProof.Rows L2
section
variable {prog : Program} {w : World} {A : Around} {E : Value → Shared → Prop} {s : Shared} {K : Type} [DecidableEq K] {knd : KeyKind prog w K}
theorem put_pairs {d : Addr} {kvs : List (K × Value)} {k : K} {key v : Value} {Q : Unit → Shared → Prop} (hkey : knd.is k key = true) (hm : s.heap.DictOf knd d kvs)
    (hQ : ∀ h', h'.DictOf knd d (stored kvs k v) → Heap.SameBut d s.heap h' → Q () { s with heap := h' }) (hsz : kvs.length ≤ sizeLine) :
    wpAny (model prog w) A (dictPut d (knd.hash k) key v) Q E s := by
  obtain ⟨o, es, ep, ho, hc, hd, hk, hp, hn⟩ := hm
  have hes : es.size ≤ sizeLine := by
    have e1 := hp.length
    have e2 : es.toList.length = es.size := by simp
    omega
  unfold dictPut
  refine wpAny_bind (wpAny_dictFind_of hkey ho hd hk ?_)
  have hidx : (es.findIdx? fun e => knd.is k e.key) = kvs.findIdx? fun kv => decide (kv.1 = k) := by
    rw [← hp.findIdx k]
    obtain ⟨l⟩ := es
    simp
  cases hi : es.findIdx? fun e => knd.is k e.key with
  | some i =>
    have hst : stored kvs k v = kvs.map fun kv => if kv.1 = k then (kv.1, v) else kv := by rw [stored, if_pos (any_of_findIdx_some (hidx ▸ hi))]
    refine wpAny_updateDict ho hd (hQ _ ⟨_, _, ep, Heap.get?_update_self _ ho (Obj.isFreed_of_dict (Obj.data_mapDict hd _)), hc.mapDict _, Obj.data_mapDict hd _, hk.modify _ _, ?_, ?_⟩ (Heap.SameBut.update ..))
    · rw [hst]
      have hl : (es.toList.findIdx? fun e => knd.is k e.key) = some i := by
        rw [← hi]
        obtain ⟨l⟩ := es
        simp
      have := hp.modify hn hl v
      obtain ⟨l⟩ := es
      simpa using this
    · rw [hst, keys_map_store]
      exact hn
  | none =>
    have hnot : k ∉ kvs.map (·.1) := not_mem_of_findIdx_none (hidx ▸ hi)
    have hst : stored kvs k v = kvs ++ [(k, v)] := by
      rw [stored, if_neg]
      rw [List.any_eq_true]
      rintro ⟨kv, hkv, he⟩
      exact hnot (List.mem_map.mpr ⟨kv, hkv, of_decide_eq_true he⟩)
    refine wpAny_updateDictKeys (hz := hes) ho hd (hQ _ ⟨_, _, ep + 1, Heap.get?_update_self _ ho (Obj.isFreed_of_dict (Obj.data_mapDictKeys hd _)), hc.mapDictKeys _, Obj.data_mapDictKeys hd _, hk.push hkey _, ?_, ?_⟩ (Heap.SameBut.update ..))
    · rw [hst]
      have := hp.append hkey (knd.hash k) v
      obtain ⟨l⟩ := es
      simpa using this
    · rw [hst, List.map_append, List.nodup_append]
      refine ⟨hn, by simp, ?_⟩
      intro x hx y hy
      simp only [List.map_cons, List.map_nil, List.mem_singleton] at hy
      subst hy
      exact fun e => hnot (e ▸ hx)
theorem pairs_at {es : List DictEntry} {kvs : List (K × Value)} (h : Pairs knd es kvs) : ∀ {i : Nat} {e : DictEntry}, es[i]? = some e → ∃ kv, kvs[i]? = some kv ∧ knd.is kv.1 e.key = true ∧ e.val = kv.2 := by
  induction h with
  | nil =>
    intro i e he
    cases he
  | @cons e0 kv es kvs h1 h2 h3 ih =>
    intro i e he
    cases i with
    | zero =>
      cases he
      exact ⟨kv, rfl, h1, h2⟩
    | succ i => exact ih he
theorem merged_len (acc : List (K × Value)) : ∀ kvs : List (K × Value), (merged acc kvs).length ≤ acc.length + kvs.length := by
  intro kvs
  induction kvs generalizing acc with
  | nil => exact Nat.le_refl _
  | cons p kvs ih =>
    have h1 := ih (stored acc p.1 p.2)
    have h2 : (stored acc p.1 p.2).length ≤ acc.length + 1 := by
      unfold stored
      split <;> simp
    have h3 : merged acc (p :: kvs) = merged (stored acc p.1 p.2) kvs := rfl
    rw [h3, List.length_cons]
    omega
theorem merge_ok {d a : Addr} {kvs acc : List (K × Value)} {Q : Unit → Shared → Prop} (hnr : ∀ k v, knd.is k v = true → ∀ b, v ≠ .ref b) (hda : d ≠ a) (hs : (a == sysModules) = false) (hd : s.heap.DictOf knd d acc) (ha : s.heap.DictOf knd a kvs)
    (hz : acc.length + kvs.length ≤ sizeLine) (hQ : ∀ h', h'.DictOf knd d (merged acc kvs) → Heap.SameBut d s.heap h' → Q () { s with heap := h' }) : wpAny (model prog w) A (mergeMapping d (.ref a) false) Q E s := by
  unfold mergeMapping
  refine wpAny_bind (wpAny_isInstance ha.typeIs F.sub_dict_dict ?_)
  simp only [if_true]
  refine wpAny_bind (wpAny_specialOf ha.typeIs F.slot_dict_iter.lookup ?_)
  refine wpAny_bind (wpAny_pure ?_)
  simp only [beq_self_eq_true]
  rw [if_neg (by rw [hs]; exact Bool.false_ne_true)]
  obtain ⟨oa, es, epa, hoa, hca, hda', hka, hpa, hna⟩ := id ha
  obtain ⟨od, ds, epd, hod, hcd, hdd, hkd, hpd, hnd⟩ := id hd
  have hsz : es.toList.length = kvs.length := hpa.length
  refine wpAny_bind (wpAny_dictEntries hod hdd ?_)
  by_cases he : ds.isEmpty = true
  case' pos =>
    rw [if_pos he]
    refine wpAny_bind (wpAny_dictEntries hoa hda' (wpAny_bind (wpAny_forIn_array' _ (fun l _ s' => s' = s ∧ ∀ e ∈ l, e ∈ es.toList) _ (fun e l _ s' hI => ?turn) (fun _ s' hI => ?_) _ _ ⟨rfl, fun _ h => h⟩)))
  case turn =>
    obtain ⟨rfl, hm⟩ := hI
    obtain ⟨k, hk1, hk2⟩ := hka e (Array.mem_toList_iff.mp (hm e (List.mem_cons_self ..)))
    cases hq : e.key with
    | ref b => exact absurd hq (hnr k e.key hk1 b)
    | _ => exact wpAny_pure ⟨rfl, fun x hx => hm x (List.mem_cons_of_mem _ hx)⟩
  case' pos =>
    obtain ⟨hss, _⟩ := hI
    subst s'
  case' neg => rw [if_neg he]
  all_goals
    refine wpAny_bind (wpAny_dictEntries hoa hda' ?_)
    try dsimp only
    refine wpAny_bind (wpAny_dictEpoch hoa hda' (wpAny_bind (wpAny_mono (wpAny_forIn_list _ (fun l _ t => ∃ i h', l = List.range' i (es.size - i) ∧ i ≤ es.size ∧ t = { s with heap := h' } ∧ h'.DictOf knd d (merged acc (kvs.take i)) ∧ Heap.SameBut d s.heap h') Q ?_ ?_ _ _
      ⟨0, s.heap, by rw [List.range_eq_range'] <;> rfl, Nat.zero_le _, rfl, hd, Heap.SameBut.refl d s.heap⟩) (fun _ _ h => wpAny_pure h) fun _ _ h => h)))
    · rintro x rest _ t ⟨i, h', hl, hi, rfl, hdi, hsb⟩
      have hlt : i < es.size := by
        rcases Nat.lt_or_ge i es.size with c | c
        · exact c
        · rw [show es.size - i = 0 by omega] at hl
          cases hl
      rw [show es.size - i = (es.size - (i + 1)) + 1 by omega, List.range'_succ] at hl
      obtain ⟨rfl, rfl⟩ := List.cons.inj hl
      have hoa' : h'.get? a = some oa := (hsb.2 a (Ne.symm hda)).trans hoa
      refine wpAny_bind (wpAny_dictEntries hoa' hda' ?_)
      have hkl : x < kvs.length := by
        rw [← hsz, Array.length_toList]
        exact hlt
      obtain ⟨k, hk1, hk2⟩ := hka es[x] (Array.getElem_mem hlt)
      obtain ⟨kv, hkv, hpx, hpv⟩ := pairs_at hpa (i := x) (e := es[x]) (by rw [Array.getElem?_toList, Array.getElem?_eq_getElem hlt])
      have ek : k = kv.1 := knd.inj _ _ _ hk1 hpx
      subst ek
      rw [Array.getElem?_eq_getElem hlt]
      dsimp only
      refine wpAny_bind (wpAny_holding ?_)
      rw [if_neg Bool.false_ne_true, hk2]
      have hml : (merged acc (kvs.take x)).length ≤ sizeLine := by
        have h1 := merged_len acc (kvs.take x)
        rw [List.length_take] at h1
        omega
      refine put_pairs (s := { s with heap := h' }) hpx hdi (fun h2 hd2 sb2 => ?_) hml
      have hoa2 : h2.get? a = some oa := (sb2.2 a (Ne.symm hda)).trans hoa'
      refine wpAny_bind (wpAny_dictEpoch (s := { s with heap := h2 }) hoa2 hda' ?_)
      rw [if_neg (by simp)]
      refine wpAny_pure ⟨x + 1, h2, rfl, hlt, rfl, ?_, ⟨sb2.1.trans hsb.1, fun b hb => (sb2.2 b hb).trans (hsb.2 b hb)⟩⟩
      rw [merged_take_succ _ _ _ kv hkv, ← hpv]
      exact hd2
    · rintro _ t ⟨i, h', hl, hi, rfl, hdi, hsb⟩
      have hlt : i = es.size := by
        rcases Nat.lt_or_ge i es.size with c | c
        · rw [show es.size - i = (es.size - (i + 1)) + 1 by omega, List.range'_succ] at hl
          cases hl
        · omega
      refine hQ h' ?_ hsb
      rw [List.take_of_length_le (by rw [← hsz, Array.length_toList]; omega)] at hdi
      exact hdi
end
end PW
namespace PW
open PySem PySem.Spec PyProof.Rows L2
theorem KV_keys : ∀ {kvs : List (Key × V)} {vs : List (Key × Value)}, KV kvs vs → kvs.map (·.1) = vs.map (·.1)
  | [], _, .nil => rfl
  | _ :: _, _, .cons h t => by rw [List.map_cons, List.map_cons, KV_keys t, h.1]
theorem putK_new {kvs : List (Key × V)} {k : Key} {v : V} (h : k ∉ kvs.map (·.1)) : putK kvs k v = kvs ++ [(k, v)] := by
  unfold putK
  rw [if_neg]
  rw [List.any_eq_true]
  rintro ⟨p, hp, e⟩
  exact h (List.mem_map.mpr ⟨p, hp, of_decide_eq_true e⟩)
theorem mergeK_nodup : ∀ (kvs acc : List (Key × V)), ((acc ++ kvs).map (·.1)).Nodup → mergeK acc kvs = acc ++ kvs
  | [], acc, _ => by
    rw [List.append_nil]
    rfl
  | p :: kvs, acc, h => by
    have hp : p.1 ∉ acc.map (·.1) := by
      rw [List.map_append, List.nodup_append] at h
      intro hm
      exact h.2.2 _ hm _ (by simp) rfl
    show mergeK (putK acc p.1 p.2) kvs = _
    rw [putK_new hp, mergeK_nodup kvs (acc ++ [(p.1, p.2)]) (by simpa using h)]
    simp
/-- {**d, k: v}, k not yet a key -/
def tDS (tr tk tv : TE) : TE := fun σ H Q => ∀ D, H D = none → tr σ (upd H D (.dK [])) fun x H1 => ∃ a kvs, x = .ref a ∧ H1 a = some (.dK kvs) ∧ a ≠ D ∧ H1 D = some (.dK []) ∧ kvs.length ≤ 1000 ∧
  ∀ S, (upd H1 D (.dK kvs)) S = none → tk σ (upd (upd H1 D (.dK kvs)) S (.dK [])) fun y H2 => tv σ H2 fun z H3 => ∃ k, y = kV k ∧ H3 D = some (.dK kvs) ∧ H3 S = some (.dK []) ∧ k ∉ kvs.map (·.1) ∧
    Q (.ref D) (upd (upd H3 S (.dK [(k, z)])) D (.dK (kvs ++ [(k, z)])))
theorem mix_nr {P : Program} {w : World} (k : Key) (v : Value) (h : (mixKind P w).is k v = true) : ∀ b, v ≠ .ref b := by
  intro b e
  subst e
  cases k with
  | inl i => exact Bool.noConfusion (show false = true from h)
  | inr x => exact Bool.noConfusion (show false = true from h)
section
variable {X : Cx} {re ke ve : Expr} {tr tk tv : TE} {pos : Pos}
theorem pe_dispStar (hr : PE X re tr) (hk : PE X ke tk) (hv : PE X ve tv) (hsh : (evalEachOpt [none, some ke] X.env).zip ((evalEach [re, ve] X.env).map fun v => do let x ← v; standAt pos; pure x) =
      [(none, do let x ← eval re X.env; standAt pos; pure x), (some (eval ke X.env), do let x ← eval ve X.env; standAt pos; pure x)] := by rfl) : PE X (.Dict [none, some ke] [re, ve] pos) (tDS tr tk tv) := by
  refine ⟨fun pins s σ H Q I q => ?_⟩
  rw [arm_eval_Dict, hsh]
  refine wpAny_bind (wpAny_standAt ?_)
  unfold dictDisplay
  dsimp only
  simp only [List.forIn_cons, List.forIn_nil, List.isEmpty_nil, if_true, pure_bind, List.nil_append, List.length_cons, List.length_nil, bind_assoc]
  have hn := I.hok.fresh (Nat.le_refl s.heap.objs.size)
  have I1 := I.laid (a := s.heap.objs.size) (o := .dK []) (h' := s.heap.push { cls := .type "dict", data := .dict #[] }) (t' := s.toks) (fun _ _ q => Heap.get?_push_of_some _ q) (Nat.le_refl _) (dk_empty s.heap I.big)
  refine wpAny_bind (wpAny_alloc ?_)
  have q1 := q _ hn
  generalize s.heap.objs.size = D at q1 I1 hn ⊢
  refine wpAny_bind (wpAny_holding (wpAny_bind (thn (hr.run pins _ σ _ _ I1 q1) fun u s2 ⟨x, H1, I2, rx, a, kvs, ex, ha, had, hD, hz, q2⟩ => wpAny_bind (wpAny_standAt (wpAny_pure ?_)))))
  subst ex
  cases (show u = Value.ref a from rx)
  obtain ⟨za, hsa, vsa, ra, dda⟩ := dk_of I2.hok ha
  obtain ⟨zd, hsd, vsd, rd, ddd⟩ := dk_of I2.hok hD
  cases rd
  have ndK : (kvs.map (·.1)).Nodup := by
    obtain ⟨_, _, _, _, _, _, _, _, hnd⟩ := id dda
    rw [KV_keys ra]
    exact hnd
  refine wpAny_bind (wpAny_onRaise (wpAny_tryCatch (wpAny_onRaise (wpAny_holding (merge_ok mix_nr (Ne.symm had) hsa ddd dda (by rw [← ra.length]; simp; omega) fun h' dd' sb => ?_)))))
  have hm1 : mergeK [] kvs = kvs := by
    have := mergeK_nodup kvs [] (by simpa using ndK)
    simpa using this
  have rel1 : KV kvs (merged [] vsa) := by
    have := ra.merge (kvs := []) (vs := []) .nil
    rwa [hm1] at this
  have he1 : ∃ q, h'.get? D = some q := let ⟨q, _, _, hq, _⟩ := dd'; ⟨q, hq⟩
  have I3 : Inv X pins σ (upd H1 D (.dK kvs)) { s2 with heap := h', toks := s2.toks } := d_write I2 (by rw [hD]; exact True.intro) sb he1 (dk_new za hsd rel1 dd')
  simp only [Nat.zero_add]
  rw [if_neg (by decide)]
  simp only [pure_bind, List.isEmpty_cons, Bool.false_eq_true, if_false]
  have hn3 := I3.hok.fresh (Nat.le_refl h'.objs.size)
  have I4 := I3.laid (a := h'.objs.size) (o := .dK []) (h' := h'.push { cls := .type "dict", data := .dict #[] }) (t' := s2.toks) (fun _ _ q => Heap.get?_push_of_some _ q) (Nat.le_refl _) (dk_empty h' I3.big)
  have q3 := q2 _ hn3
  have hSD : D ≠ h'.objs.size := fun e => by
    rw [← e, upd_same] at hn3
    cases hn3
  refine wpAny_bind (wpAny_bind (wpAny_holding (wpAny_subDict (knd := mixKind X.prog X.w) (s := { s2 with heap := h', toks := s2.toks }) ?hlen ?_)))
  case hlen => exact Nat.le_of_ble_eq_true rfl
  refine evalPairs_cons (thn (hk.run pins _ σ _ _ I4 q3) fun ku s4 ⟨y, H2, I5, ry, q4⟩ => wpAny_bind (thn (hv.run pins s4 σ H2 _ I5 q4) fun vu s5 ⟨z, H3, I6, rz, k, ey, hD3, hS3, hnk, q5⟩ => wpAny_bind (wpAny_standAt (wpAny_pure (evalPairs_nil ?_)))))
  subst ey
  obtain ⟨zS, hsS, vsS, rS, ddS⟩ := dk_of I6.hok hS3
  cases rS
  refine ⟨[(k, vu)], ⟨kV_is ry, rfl, True.intro⟩, ddS, fun h2 ddS2 sbS => ?_⟩
  have heS : ∃ q, h2.get? h'.objs.size = some q := let ⟨q, _, _, hq, _⟩ := ddS2; ⟨q, hq⟩
  have relS : KV [(k, z)] (merged [] [(k, vu)]) := .cons ⟨rfl, rz⟩ .nil
  have I7 : Inv X pins σ (upd H3 h'.objs.size (.dK [(k, z)])) { s5 with heap := h2, toks := s5.toks + 1 } := d_write I6 (by rw [hS3]; exact True.intro) sbS heS (dk_new (by simp [sizeLine_eq]) hsS relS ddS2)
  have hD7 : (upd H3 h'.objs.size (.dK [(k, z)])) D = some (.dK kvs) := by
    rw [upd_ne hSD]
    exact hD3
  obtain ⟨z7, hs7, vs7, r7, dd7⟩ := dk_of I7.hok hD7
  obtain ⟨z8, hs8, vs8, r8, dd8⟩ := dk_of I7.hok (upd_same (H := H3) (a := h'.objs.size) (o := .dK [(k, z)]))
  refine wpAny_bind (wpAny_onRaise (wpAny_holding (merge_ok mix_nr hSD hs8 dd7 dd8 (by rw [← r7.length, ← r8.length, sizeLine_eq]; simp; omega) fun h9 dd9 sb9 => wpAny_pure (wpAny_pure ?_))))
  have he9 : ∃ q, h9.get? D = some q := let ⟨q, _, _, hq, _⟩ := dd9; ⟨q, hq⟩
  have rel9 : KV (kvs ++ [(k, z)]) (merged vs7 vs8) := by
    have := r8.merge r7
    have e : mergeK kvs [(k, z)] = kvs ++ [(k, z)] := putK_new hnk
    rwa [e] at this
  exact ⟨.ref D, _, d_write (t' := s5.toks + 1) I7 (by rw [hD7]; exact True.intro) sb9 he9 (dk_new (by rw [List.length_append, sizeLine_eq]; simp; omega) hs7 rel9 dd9), rfl, q5⟩
end
end PW
namespace PW
open PySem PySem.Spec PyProof.Rows L2
section
variable {X : Cx}
/-- set.add of a tuple of ints -/
theorem addT_ok {pins : List (Addr × Obj)} {σ : L2.St} {H : Hp} {s : Shared} {E : Value → Shared → Prop} {D x : Addr} {L : List (Addr × List Int)} {ns : List Int} {Q : Value → Shared → Prop} (hu : X.A.units + 8 < cLine) (I : Inv X pins σ H s) (hD : H D = some (SetTO X.prog X.w D L))
    (hL : ∀ p ∈ L, SqT X.K H p.1 (p.2.map V.int)) (hx : SqT X.K H x (ns.map V.int)) (few : L.length + 1 < 64)
    (h : ∀ L' s', (ns ∈ L.map (·.2) → L' = L) → (ns ∉ L.map (·.2) → L'.Perm ((x, ns) :: L)) → Inv X pins σ (upd H D (SetTO X.prog X.w D L')) s' → Q .none s') : wpAny (model X.prog X.w) X.A (call (.builtin "set.add") [.ref D, .ref x]) Q E s := by
  obtain ⟨es, ep, t, R⟩ := (show SetT0 X.prog X.w s.heap D L from (I.hok D _ hD).1).full fun p hp => I.isT (hL p hp)
  have kx := I.isT hx
  obtain ⟨o, ho, hex, hd⟩ := id R.ob
  have hty : s.TypeIs (.ref D) "set" := ⟨o, ho, hex.1⟩
  refine wpAny_call_entry F.slot_set_add hty F.entry_set_add ?_ (F.args_set_add_2 _ _)
  unfold Builtin.«set.add» Builtin.Frozenset.oneOther
  simp only [List.isEmpty_nil, bind_assoc]
  unfold Builtin.Frozenset.addrOf setAdd
  refine wpAny_bind (wpAny_pure ?_)
  try dsimp only
  refine wpAny_bind (wpAny_pure ?_)
  try dsimp only
  refine wpAny_bind (wpAny_holding (wpAny_bind (wpAny_pyHash_tuple (by show X.A.units + 1 < cLine; omega) kx ?_)))
  refine add_at (s := { s with toks := s.toks + (ns.length + 1) }) R kx (by show X.A.units + 1 < cLine; omega) few fun b h' L' es' ep' t' sb R' c1 c2 => ?_
  refine wpAny_pure ⟨_, rfl, h L' _ c1 c2 ?_⟩
  have he : ∃ q, h'.get? D = some q := by
    obtain ⟨o', ho', _⟩ := R'.ob
    exact ⟨o', ho'⟩
  exact I.write (e := D) (t' := s.toks + (ns.length + 1)) (by rw [hD]; exact True.intro) (.inl rfl) (fun b q hb e => (sb.2 b hb).trans e) he (setTO_new R'.t0)
end
end PW
namespace PW
open PySem PySem.Spec PyProof.Rows L2 PpSet
section
variable {X : Cx}
/-- {elt for tg in iter}, elt a tuple of ints -/
def tScT (K : PySem.W.Frag) (P : Program) (w : World) (wi : TI) (g : TG) (te : TE) (vs : List Nat) : TE := fun σ H Q => wi σ H fun J H1 => ∀ D, H1 D = none → ∃ W : Nat → Nat → Hp → Prop, (∃ m, W 0 m (upd H1 D (SetTO P w D []))) ∧ ∀ i m H, W i m H →
  (J.stop i H ∧ Q (.ref D) H) ∨ (J.go i H ∧ ∃ Nx : Hp → Prop, (∀ H', Nx H' → ∃ m', m' < m ∧ W (i + 1) m' H') ∧ ∀ x H', J.yld i H x H' → g x (L2.wipe σ vs) H' fun σ2 H2 => L2.wipe σ2 vs = L2.wipe σ vs ∧ te σ2 H2 fun y H3 =>
    ∃ (b : Addr) (ns : List Int) (L : List (Addr × List Int)), y = .ref b ∧ H3 D = some (SetTO P w D L) ∧ (∀ p ∈ L, SqT K H3 p.1 (p.2.map V.int)) ∧ SqT K H3 b (ns.map V.int) ∧ L.length + 1 < 64 ∧
      ∀ L', (ns ∈ L.map (·.2) → L' = L) → (ns ∉ L.map (·.2) → L'.Perm ((b, ns) :: L)) → Nx (upd H3 D (SetTO P w D L')))
theorem pe_scT {elt tg iter : Expr} {scope : Scope} {own : List (Str × Nat)} {pos : Pos} {wi : TI} {g : TG} {te : TE} (hu : X.A.units + 8 < cLine) (hc : X.calm = true) (hN : X.N.Nodup) (hi : PI X tg iter wi) (ok : BlkOk X.N X.env.scope scope own)
    (hg : ∀ (s : Shared) (H : Hp) (C : Addr) (cl : List (Str × Addr)) (fp : List Addr), PG (X.blk s H scope (compEnvC scope cl C X.env) fp) tg g) (he : ∀ (s : Shared) (H : Hp) (C : Addr) (cl : List (Str × Addr)) (fp : List Addr), PE (X.blk s H scope (compEnvC scope cl C X.env) fp) elt te)
    (hs : ∀ x, foldedSetIterable iter X.env x = pure x := by intro _; rfl) : PE X (.SetComp elt [⟨tg, iter, [], 0⟩] scope pos) (tScT X.K X.prog X.w wi g te (own.map (·.2))) := by
  refine ⟨fun pins s σ H Q I h => ?_⟩
  rw [eval_SetComp]
  have cells : ∀ y ∈ scope.names, y.2 = .free → ∃ c, X.env.cells.lookup y.1 = some c := fun y hy e => (ok.free y hy e).elim (fun k => I.ok.has _ (.inl k)) fun k => I.ok.has _ (.inr k)
  refine wpAny_comprehension_free rfl hs (closure_ok cells) ok.kind (fun y hy e => by rw [ok.uniq y hy, e]) (thn (hi.run pins s σ H _ I h) fun xv s1 hx => thn hx fun itv s2 h2 => ?_)
  obtain ⟨it, fp, tn, J, H2, e, I2, T, st2, f2, q⟩ := h2
  subst e
  refine newSet_ok (newEnv_comp ?_)
  have hDn : H2 s2.heap.objs.size = none := I2.hok.fresh (Nat.le_refl _)
  obtain ⟨W, ⟨m0, w0⟩, turn⟩ := q _ hDn
  have lo : ∀ b ∈ fp, b < s2.heap.objs.size := fun b hb => by
    obtain ⟨o, e, _⟩ := T.obj _ _ st2 b hb
    exact Heap.lt_size e
  have I3 : Inv X pins σ (upd H2 s2.heap.objs.size (SetTO X.prog X.w s2.heap.objs.size [])) { s2 with heap := s2.heap.push { cls := .type "set", dict := none, data := .set #[] 0 (.fresh 0 0 (!X.w.params.followText "set-order")) } } :=
    I2.laid (t' := s2.toks) (fun b o e => Heap.get?_push_of_some _ e) (Nat.le_refl _) (setTO_new (setTR_fresh (P := X.prog) (Heap.get?_push_size _ rfl)).t0)
  have st3 : tn 0 (s2.heap.push { cls := .type "set", dict := none, data := .set #[] 0 (.fresh 0 0 (!X.w.params.followText "set-order")) }) := T.keep _ _ _ st2 fun b _ o e => Heap.get?_push_of_some _ e
  have f3 : ∀ b ∈ fp, FpOk X pins (upd H2 s2.heap.objs.size (SetTO X.prog X.w s2.heap.objs.size [])) b ∧ b < (s2.heap.push { cls := .type "set", dict := none, data := .set #[] 0 (.fresh 0 0 (!X.w.params.followText "set-order")) }).objs.size := fun b hb => by
    refine ⟨⟨?_, (f2 b hb).2⟩, ?_⟩
    · rw [upd_ne (Nat.ne_of_lt (lo b hb))]
      exact (f2 b hb).1
    · rw [Heap.size_push]
      exact Nat.lt_succ_of_lt (lo b hb)
  generalize s2.heap.objs.size = D at *
  generalize hs3 : ({ s2 with heap := s2.heap.push { cls := .type "set", dict := none, data := .set #[] 0 (.fresh 0 0 (!X.w.params.followText "set-order")) } } : Shared) = s3 at *
  have h3 : s2.heap.push { cls := .type "set", dict := none, data := .set #[] 0 (.fresh 0 0 (!X.w.params.followText "set-order")) } = s3.heap := by rw [← hs3]
  rw [h3] at st3 f3
  have I4 := block_start I3 ok hN f3
  have pg := hg s3 (upd H2 D (SetTO X.prog X.w D [])) s3.heap.objs.size (cellsFrom (s3.heap.objs.size + 1) scope.names (cloFrom X.env.cells scope.names [])) fp
  have pe := he s3 (upd H2 D (SetTO X.prog X.w D [])) s3.heap.objs.size (cellsFrom (s3.heap.objs.size + 1) scope.names (cloFrom X.env.cells scope.names [])) fp
  have nfp : ∀ b ∈ fp, (upd H2 D (SetTO X.prog X.w D [])) b = none := fun b hb => (f3 b hb).1.1
  have hends : ∀ s' m H', Inv X pins σ H' s' → Q (.ref D) H' → s'.heap.Ns s3.heap.objs.size m → FpOk X pins H' s3.heap.objs.size → compPost (model X.prog X.w) X.A X.xe none (EP X pins σ Q) (.ref D) s3.heap.objs.size (.ok .next) s' := fun s' m H' I' qq hn f => ⟨m, hn, fun h'' sb => by
    obtain ⟨f0, f1, f2, f3, f4, f5⟩ := f
    exact ⟨.ref D, H', I'.turned (t' := s'.toks) (fun b o hb e => (sb.2 b hb).trans e) f0 f1 f3 f4 f5, rfl, qq⟩⟩
  show codeAny _ _ (.compStart (.SetComp elt [⟨tg, iter, [], 0⟩] scope pos) 0 (.ref it) (.ref D) (compEnvC scope (cellsFrom (s3.heap.objs.size + 1) scope.names (cloFrom X.env.cells scope.names [])) s3.heap.objs.size X.env)) (compPost (model X.prog X.w) X.A X.xe none (EP X pins σ Q) (.ref D) s3.heap.objs.size) { s3 with heap := pushCells (s3.heap.push { cls := .type "dict", data := .dict #[] }) scope.names }
  generalize hce : compEnvC scope (cellsFrom (s3.heap.objs.size + 1) scope.names (cloFrom X.env.cells scope.names [])) s3.heap.objs.size X.env = ce at I4 pg pe ⊢
  have cL : ce.locals = s3.heap.objs.size := by
    subst hce
    rfl
  generalize upd H2 D (SetTO X.prog X.w D []) = H3 at I3 I4 pg pe w0 nfp f3
  generalize hs4 : ({ s3 with heap := pushCells (s3.heap.push { cls := .type "dict", data := .dict #[] }) scope.names } : Shared) = s4 at I4 ⊢
  have st4 : tn 0 s4.heap := T.keep _ _ _ st3 fun b _ o e => by
    rw [← hs4]
    exact pushCells_keeps _ _ _ _ (Heap.get?_push_of_some _ e)
  have foot : ∀ {σ' : L2.St} {H' : Hp} {s' : Shared}, Inv (X.blk s3 H3 scope ce fp) [] σ' H' s' → (∀ b ∈ fp, H' b = none) → ∀ b ∈ fp, FpOk (X.blk s3 H3 scope ce fp) [] H' b := fun {σ' H' s'} I' hn b hb =>
    ⟨hn b hb, (I'.ok.exf b hb).1, I'.ok.exfs b hb, .inl hb, fun x c e => (I'.ok.exf b hb).2 x c e, fun p hp => absurd (show p ∈ ([] : List (Addr × Obj)) ++ [] from hp) (by simp)⟩
  have loop : codeAny (model X.prog X.w) X.A (.compLoop (.SetComp elt [⟨tg, iter, [], 0⟩] scope pos) 0 (.ref it) (.ref D) ce) (compPost (model X.prog X.w) X.A X.xe none (EP X pins σ Q) (.ref D) s3.heap.objs.size) s4 := by
    refine compLoopS_any (fun n t => ∃ i H', Inv (X.blk s3 H3 scope ce fp) [] (L2.wipe σ (own.map (·.2))) H' t ∧ tn i t.heap ∧ (∀ b ∈ fp, H' b = none) ∧ W i n H') ?_ m0 ⟨0, H3, I4, st4, nfp, w0⟩
    rintro n s5 ⟨i, H5, I5, st5, n5, w5⟩
    rcases turn i n H5 w5 with ⟨stop, qq⟩ | ⟨go, Nx, hNx, step⟩
    · refine thnF (T.done (X.blk s3 H3 scope ce fp) rfl rfl rfl hc i [] s5 _ H5 (fun _ _ => False) I5 (foot I5 n5) st5 stop) fun r s6 ⟨hr, I6⟩ => ?_
      subst hr
      have I7 : Inv X pins σ H5 s6 := I3.call' (ch := fp) I6.os I6.base I6.hok I6.bare fun b hb => ⟨(f3 b hb).1.2.2.2.1, (f3 b hb).1.2.1, (f3 b hb).1.2.2.2.2.1, (f3 b hb).1.2.2.2.2.2⟩
      obtain ⟨m, hn, _⟩ := I6.loc
      have hn' : s6.heap.Ns ce.locals m := hn
      have nC : H5 ce.locals = none := I6.free
      rw [cL] at hn' nC
      exact hends s6 m H5 I7 qq hn' (I3.fpOk (Nat.le_refl _) nC)
    · refine thnF (T.item (X.blk s3 H3 scope ce fp) rfl rfl rfl hc i [] s5 _ H5 (fun _ _ => False) I5 (foot I5 n5) st5 go) fun r s6 ⟨u, hr, h6⟩ => ?_
      subst hr
      refine thnF h6 fun _ s7 ⟨x, H7, I7, r7, y7, st7, n7⟩ => ?_
      refine thnF (pg.run _ s7 _ H7 x u _ (I7.pinned (foot I7 n7) (T.obj _ _ st7)) r7 (step x H7 y7)) fun _ s8 ⟨σ8, H8, I8, hw8, q8⟩ => ?_
      refine thnF ((pts_nil (X := X.blk s3 H3 scope ce fp)).run _ s8 σ8 H8 (fun b H' => b = true ∧ H' = H8) I8 ⟨rfl, rfl⟩) fun b s9 ⟨H9, I9, q9, e9⟩ => ?_
      subst q9 e9
      have fin : ∀ {t : Shared} {H' : Hp}, Inv (X.blk s3 H3 scope ce fp) ([] ++ pinsAt fp s7.heap) σ8 H' t → Nx H' → ∃ m, m < n ∧ ∃ i H', Inv (X.blk s3 H3 scope ce fp) [] (L2.wipe σ (own.map (·.2))) H' t ∧ tn i t.heap ∧ (∀ b ∈ fp, H' b = none) ∧ W i m H' := fun {t H'} I' nx => by
        obtain ⟨m', hm, w'⟩ := hNx H' nx
        have held : ∀ b ∈ fp, ∀ o, s7.heap.get? b = some o → t.heap.get? b = some o ∧ H' b = none := fun b hb o e =>
          let z := I'.pin (b, o) (List.mem_append_right _ (List.mem_append_right _ (mem_pinsAt hb e)))
          ⟨z.1, z.2.1⟩
        refine ⟨m', hm, i + 1, H', (I'.unpinned (pins := [])).weak (by rw [← hw8, wipe_length]) (fun j v e => ?_), T.keep _ _ _ st7 fun b hb o e => (held b hb o e).1, fun b hb => ?_, w'⟩
        · rw [← hw8] at e
          exact (wipe_some e).1
        · obtain ⟨o, e, _⟩ := T.obj _ _ st7 b hb
          exact (held b hb o e).2
      simp only [if_true]
      refine thnF (pe.run _ s9 σ8 H9 _ I9 q8) fun z s10 ⟨yv, H10, I10, r10, b, ns, L, ey, hD10, hL10, hb10, few, nx⟩ => ?_
      subst ey
      cases (show z = Value.ref b from r10)
      exact addT_ok (X := X.blk s3 H3 scope ce fp) hu I10 hD10 hL10 hb10 few fun L' s11 c1 c2 I11 => fin I11 (nx L' c1 c2)
  exact codeAny_compStart_set loop (T.self X.A 0 _ _ _ st4 loop)
end
end PW
/-! sorting tuples of ints of any sign: by the code of the ints shifted up by c -/
namespace PW
open PySem PySem.Spec PyProof.Rows L2
def cdS (c B : Int) (ns : List Int) : Int := TS.code B (ns.map fun x => x + c)
def BdS (c B : Int) (ns : List Int) : Prop := TS.Bd B (ns.map fun x => x + c)
theorem cdS_cons_lt {c B p q : Int} {ns ms : List Int} (hl : ns.length = ms.length) (h1 : BdS c B ns) (h2 : BdS c B ms) (h : p < q) : cdS c B (p :: ns) < cdS c B (q :: ms) :=
  TS.code_lt (by rw [List.length_map, List.length_map, hl]) h1 h2 (show p + c < q + c by omega)
theorem cdS_cons_same {c B p : Int} {ns ms : List Int} (hl : ns.length = ms.length) : cdS c B (p :: ns) < cdS c B (p :: ms) ↔ cdS c B ns < cdS c B ms := TS.code_same (by rw [List.length_map, List.length_map, hl])
/-- the code tells the lexical order -/
theorem cdS_lex {c B : Int} : ∀ {ns ms : List Int}, ns.length = ms.length → BdS c B ns → BdS c B ms → (decide (cdS c B ns < cdS c B ms)) = HT.lexLt ns ms
  | [], [], _, _, _ => by
    rw [HT.lexLt_nil_nil]
    exact decide_eq_false (Int.lt_irrefl _)
  | [], _ :: _, h, _, _ => by cases h
  | _ :: _, [], h, _, _ => by cases h
  | p :: ns, q :: ms, h, h1, h2 => by
    have hl : ns.length = ms.length := Nat.succ.inj h
    have t1 : BdS c B ns := fun m hm => h1 m (List.mem_cons_of_mem _ hm)
    have t2 : BdS c B ms := fun m hm => h2 m (List.mem_cons_of_mem _ hm)
    rw [HT.lexLt_cons]
    by_cases e : p = q
    · subst e
      rw [if_pos rfl, ← cdS_lex hl t1 t2]
      exact decide_eq_decide.mpr (cdS_cons_same hl)
    · rw [if_neg e]
      refine decide_eq_decide.mpr ⟨fun x => ?_, fun x => cdS_cons_lt hl t1 t2 x⟩
      rcases Int.lt_trichotomy p q with y | y | y
      · exact y
      · exact absurd y e
      · have := cdS_cons_lt hl.symm t2 t1 y
        omega
section
variable {prog : Program} {w : World} {A : Around} {E : Value → Shared → Prop} {s : Shared}
/-- the ints are looked at from the left -/
theorem lex_run {b : Bool} {Q : Bool → Shared → Prop} {xs ys : List Value} {ns ms : List Int} (i : Nat) (hx : IntsAre xs ns) (hy : IntsAre ys ms) (hl : ns.length = ms.length) (h : Q (HT.lexLt ns ms) s) : PySem.W.KatLex prog w A b false Q (xs.zip ys) i s := by
  induction hx generalizing ys ms i with
  | nil =>
    cases hy with
    | nil => exact PySem.W.kat_nil h
    | cons q u hy => simp at hl
  | @cons p t xs ns hx ih =>
    cases hy with
    | nil => simp at hl
    | @cons q u ys ms hy =>
      rw [HT.lexLt_cons] at h
      show PySem.W.KatLex prog w A b false Q ((Value.int p t, Value.int q u) :: xs.zip ys) i s
      refine PySem.W.kat_cons (wpAny_eqBool_int ?_)
      by_cases e : p = q
      · rw [if_pos e] at h
        subst e
        rw [beq_self_eq_true]
        refine PySem.W.kat_yes ?_
        first
          | exact ih (i + 1) hy (Nat.succ.inj hl) h
          | exact ih _ _ (i + 1) hy (Nat.succ.inj hl) h
      · rw [if_neg e] at h
        rw [show (p == q) = false from beq_eq_false_iff_ne.mpr e]
        exact PySem.W.kat_no (TS.oneLt_ints _ h)
/-- what is sorted -/
def TupsS (h : Heap) (d : Nat) (c B : Int) (vs : List Value) : Prop := ∀ v, v ∈ vs → ∃ ns, TS.TupInts h v ns ∧ ns.length = d ∧ BdS c B ns
theorem TupsS.keeps {h h' : Heap} {d : Nat} {c B : Int} {vs : List Value} (x : TupsS h d c B vs) (k : ∀ b o, h.get? b = some o → o.cls = .type "tuple" → h'.get? b = some o) : TupsS h' d c B vs := fun v hv => by
  obtain ⟨ns, t, r⟩ := x v hv
  exact ⟨ns, t.keeps k, r⟩
theorem heads_of {h : Heap} {d : Nat} {c B : Int} (hd : 1 ≤ d) : ∀ vs : List Value, TupsS h d c B vs → ∃ fs, PySem.W.KatTups h vs fs ∧ fs.length = vs.length ∧ ∀ f, f ∈ fs → ∃ n t, f = Value.int n t
  | [], _ => ⟨[], PySem.W.KatTups.nil, rfl, fun f hf => by simp at hf⟩
  | v :: vs, x => by
    obtain ⟨fs, k, hl, hi⟩ := heads_of hd vs fun u hu => x u (List.mem_cons_of_mem _ hu)
    obtain ⟨ns, ⟨a, xs, ea, ⟨o, ho, hc, n, hdt⟩, i⟩, hn, _⟩ := x v (List.mem_cons_self ..)
    subst ea
    cases q : xs.toList with
    | nil =>
      rw [q] at i
      have l := i.length
      rw [List.length_nil, hn] at l
      omega
    | cons y ys =>
      obtain ⟨m, t, hy⟩ := i.all y (by rw [q]; exact List.mem_cons_self ..)
      refine ⟨y :: fs, PySem.W.KatTups.cons ho hc hdt ?_ k, congrArg Nat.succ hl, fun f hf => ?_⟩
      · have z : xs.toList[0]? = some y := by rw [q] <;> rfl
        simpa using z
      · rcases List.mem_cons.mp hf with e | hf
        · rw [e]
          exact ⟨m, t, hy⟩
        · exact hi f hf
theorem kindS {d : Nat} {c B : Int} {vs : List Value} (hd : 1 ≤ d) (h2 : 2 ≤ vs.length) (x : TupsS s.heap d c B vs) (r : Value → Int) (hr : ∀ v, v ∈ vs → ∀ ns, TS.TupInts s.heap v ns → r v = cdS c B ns) (Q : SortKind → Shared → Prop)
    (h : ∀ κ, TS.Cmp prog w A s κ (pairsOf vs) r → Q κ s) : wpAny (model prog w) A (keyKind' vs.toArray) Q E s := by
  obtain ⟨fs, k, hl, hi⟩ := heads_of hd vs x
  refine PySem.W.kat_kind (T := Value.type "int") k (by omega) (fun f hf => ?_) rfl (h _ ?_)
  · obtain ⟨n, t, e⟩ := hi f hf
    rw [e]
    exact PySem.W.Looks.of_pure rfl
  · intro p q hp hq Q' E' hQ
    rw [pairsOf_toList] at hp hq
    obtain ⟨ns, tp, lp, bp⟩ := x _ (mem_zip_self hp).2
    obtain ⟨ms, tq, lq, bq⟩ := x _ (mem_zip_self hq).2
    rw [hr _ (mem_zip_self hp).2 _ tp, hr _ (mem_zip_self hq).2 _ tq, cdS_lex (by omega) bp bq] at hQ
    obtain ⟨a, xs, e1, ⟨o, ho, hc, n, hdt⟩, i⟩ := tp
    obtain ⟨a', ys, e2, ⟨o', ho', hc', n', hdt'⟩, i'⟩ := tq
    rw [e1, e2]
    refine PySem.W.kat_lt ho hdt ho' hdt' ?_
    have l1 := i.length
    have l2 := i'.length
    rw [Array.length_toList] at l1 l2
    rw [show decide (xs.size < ys.size) = false from decide_eq_false (by omega)]
    exact lex_run 0 i i' (by omega) hQ
theorem list_sortS {a : Addr} {vs : List Value} {n d : Nat} {c B : Int} {Q : Value → Shared → Prop} (ho : s.heap.get? a = some (seqObj "list" vs.toArray n)) (h64 : vs.length < 64) (hd : 1 ≤ d) (x : TupsS s.heap d c B vs)
    (h : ∀ out : Array Value, out.toList.Perm vs → out.toList.Pairwise (fun u v => cdS c B (TS.intsOf s.heap u) ≤ cdS c B (TS.intsOf s.heap v)) → Q .none { s with heap := sortedHeap s.heap a vs out }) :
    wpAny (model prog w) A (call (.builtin "list.sort") [.ref a]) Q E s := by
  refine wpAny_call_entry slot_list_sort ⟨_, ho, rfl⟩ entry_list_sort ?_ (args_list_sort _)
  have still : ∀ b o, s.heap.get? b = some o → o.cls = .type "tuple" → (TS.midHeap s.heap a vs).get? b = some o := fun b o e hc => TS.midHeap_old (fun z => by
    rw [z, ho] at e
    have e' := Option.some.inj e
    rw [← e'] at hc
    exact absurd (Value.type.inj (show Value.type "list" = Value.type "tuple" from hc)) (by decide)) e
  refine SK.plain_sort (r := fun v => cdS c B (TS.intsOf s.heap v)) ho h64 (fun h2 Q hQ => ?_) fun ps out h1 h2 h3 => ?_
  · refine kindS (s := { s with heap := TS.midHeap s.heap a vs }) hd h2 (x.keeps still) _ (fun v hv ns t => ?_) Q hQ
    obtain ⟨ns0, t0, _⟩ := x v hv
    show cdS c B (TS.intsOf s.heap v) = cdS c B ns
    rw [t0.ints, ← (t0.keeps still).ints, t.ints]
  · obtain ⟨p, o⟩ := TS.out_rank (r := fun v => cdS c B (TS.intsOf s.heap v)) h1 h2 h3
    exact ⟨_, rfl, h out p o⟩
/-- sorted(xs), a list -/
theorem sorted_listS {l : Addr} {vs : List Value} {d : Nat} {c B : Int} {Q : Value → Shared → Prop} (hl : s.heap.IsList l vs.toArray) (h64 : vs.length < 64) (hd : 1 ≤ d) (x : TupsS s.heap d c B vs)
    (h : ∀ out : Array Value, out.toList.Perm vs → out.toList.Pairwise (fun u v => cdS c B (TS.intsOf s.heap u) ≤ cdS c B (TS.intsOf s.heap v)) → Q (.ref (s.heap.objs.size + 1)) { s with heap := sortedAll s.heap vs out }) :
    wpAny (model prog w) A (call (.builtin "sorted") [.ref l]) Q E s := by
  refine Calls.call_function_entry kind_sorted plain_sorted entry_sorted (args_sorted1 _) ?_
  unfold Builtin.«sorted»
  refine wpAny_bind (m := checkCount "sorted" 1 1 _) (wpAny_pure (wpAny_bind (collect_list hl ?_ (by rw [sizeLine_eq]; omega))))
  refine wpAny_bind (wpAny_newList ?_ (by rw [sizeLine_eq]; omega))
  have hsz : ((s.heap.push (seqObj "list" #[] 0)).update s.heap.objs.size (Obj.mapSeq (· ++ vs.toArray))).objs.size = s.heap.objs.size + 1 := by rw [Heap.size_update, size_push']
  have hoL : (((s.heap.push (seqObj "list" #[] 0)).update s.heap.objs.size (Obj.mapSeq (· ++ vs.toArray))).push (seqObj "list" vs.toArray 0)).get? (s.heap.objs.size + 1) = some (seqObj "list" vs.toArray 0) := by
    rw [← hsz]
    exact Heap.get?_push_size _ rfl
  have still : ∀ b o, s.heap.get? b = some o → o.cls = .type "tuple" → (((s.heap.push (seqObj "list" #[] 0)).update s.heap.objs.size (Obj.mapSeq (· ++ vs.toArray))).push (seqObj "list" vs.toArray 0)).get? b = some o := fun b o q _ => by
    have hlt : b < s.heap.objs.size := Heap.lt_size q
    rw [Heap.get?_push_ne _ _ _ (by rw [hsz]; exact Nat.ne_of_lt (Nat.lt_succ_of_lt hlt)), Heap.get?_update_ne _ _ _ _ (Nat.ne_of_lt hlt), Heap.get?_push_ne _ _ _ (Nat.ne_of_lt hlt)]
    exact q
  show wpAny _ _ _ _ _ { s with heap := ((s.heap.push (seqObj "list" #[] 0)).update s.heap.objs.size (Obj.mapSeq (· ++ vs.toArray))).push (seqObj "list" vs.toArray 0) }
  rw [hsz]
  refine wpAny_bind (wpAny_holding (list_sortS (s := { s with heap := _ }) hoL h64 hd (x.keeps still) fun out a1 a2 => wpAny_pure ⟨_, rfl, h out a1 ?_⟩))
  refine List.Pairwise.imp_of_mem (fun {u v} hu hv huv => ?_) a2
  obtain ⟨n1, t1, _⟩ := x u (a1.mem_iff.mp hu)
  obtain ⟨n2, t2, _⟩ := x v (a1.mem_iff.mp hv)
  have huv' : cdS c B (TS.intsOf _ u) ≤ cdS c B (TS.intsOf _ v) := huv
  rw [(t1.keeps still).ints, (t2.keeps still).ints] at huv'
  rw [t1.ints, t2.ints]
  exact huv'
end
end PW
namespace PW
open PySem PySem.Spec PyProof.Rows L2
section
variable {P : Program} {w : World} {A : Around} {E : Value → Shared → Prop} {s : Shared} {L : List (Addr × List Int)} {es : Array (Int × Value)} {ep : Nat} {t : SetTable}
/-- values that stand for rows of L are rows of L -/
theorem rows_of : ∀ vs : List Value, (∀ v ∈ vs, ∃ q ∈ L, v = Value.ref q.1) → ∃ L1 : List (Addr × List Int), vs = L1.map (fun q => Value.ref q.1) ∧ ∀ q ∈ L1, q ∈ L
  | [], _ => ⟨[], rfl, fun q hq => by cases hq⟩
  | v :: vs, hv => by
    obtain ⟨q, hq, e⟩ := hv v List.mem_cons_self
    obtain ⟨L1, e1, hs⟩ := rows_of vs fun u hu => hv u (List.mem_cons_of_mem _ hu)
    exact ⟨q :: L1, by rw [List.map_cons, e, e1], fun r hr => (List.mem_cons.mp hr).elim (fun z => by rw [z]; exact hq) (hs r)⟩
theorem sorted_setS {a : Addr} {Q : Value → Shared → Prop} (R : SetTR P w s.heap a L es ep t) (hh : A.handled = none) {d : Nat} {c B : Int} (hd1 : 1 ≤ d) (hB : ∀ p ∈ L, p.2.length = d ∧ BdS c B p.2)
    (hQ : ∀ s' p (out : Array Value) (n : Nat) (L' : List (Addr × List Int)), (∀ b o, s.heap.get? b = some o → s'.heap.get? b = some o) → s'.gens = s.gens → s'.os = s.os → s.heap.objs.size ≤ p →
      s'.heap.get? p = some (seqObj "list" out n) → out.toList = L'.map (fun q => Value.ref q.1) → L'.Perm L → L'.Pairwise (fun q r => cdS c B q.2 ≤ cdS c B r.2) → Q (.ref p) s') :
    wpAny (model P w) A (call (.builtin "sorted") [.ref a]) Q E s := by
  obtain ⟨o, ho, hex, hd⟩ := R.ob
  have hfew := R.few
  have hsz := R.size
  refine Calls.call_function_entry kind_sorted plain_sorted entry_sorted (args_sorted1 _) ?_
  unfold Builtin.«sorted»
  refine wpAny_bind (m := checkCount "sorted" 1 1 _) (wpAny_pure (wpAny_bind (collect_set (A := A.in1) hh ⟨o, ho, hex.1, hd⟩ R.fits (by unfold scanBound; omega) R.tab.ris R.led fun s1 vs k1 hz g1 o1 pm => ?_)))
  have hes : es.toList.map (·.2) = L.map fun q => Value.ref q.1 := by
    rw [R.rows]
    unfold rowsOf
    rw [List.map_map] <;> rfl
  rw [hes] at pm
  have uniq : ∀ q ∈ L, ∀ r ∈ L, q.1 = r.1 → q = r := fun q hq r hr e => by
    have a1 := R.tup q hq
    rw [e] at a1
    exact Prod.ext e (a1.inj (R.tup r hr))
  have nL : L.Nodup := nodup_of_map R.nd
  have nref : (L.map fun q => Value.ref q.1).Nodup := by
    refine List.pairwise_map.mpr (List.Pairwise.imp_of_mem (fun {q r} hq hr hne e => ?_) nL)
    injection e with e
    exact hne (uniq q hq r hr e)
  have hvl : vs.length < 64 := by
    rw [pm.length_eq, List.length_map]
    exact hfew
  refine wpAny_bind (wpAny_newList ?_ (by rw [sizeLine_eq]; omega))
  have hoL : (s1.heap.push (seqObj "list" vs.toArray 0)).get? s1.heap.objs.size = some (seqObj "list" vs.toArray 0) := Heap.get?_push_size _ rfl
  have tk : ∀ q ∈ L, TS.TupInts (s1.heap.push (seqObj "list" vs.toArray 0)) (.ref q.1) q.2 := fun q hq => tupInts_of (P := P) (w := w) (isT_keep (R.tup q hq) fun b u e => Heap.get?_push_of_some _ (k1 b u e))
  have x : TupsS (s1.heap.push (seqObj "list" vs.toArray 0)) d c B vs := fun v hv => by
    obtain ⟨q, hq, e⟩ := List.mem_map.mp (pm.mem_iff.mp hv)
    rw [← e]
    exact ⟨q.2, tk q hq, hB q hq⟩
  refine wpAny_bind (wpAny_holding (list_sortS (s := { s1 with heap := s1.heap.push (seqObj "list" vs.toArray 0) }) hoL hvl hd1 x fun out a1 a2 => ?_))
  obtain ⟨n, hc⟩ := sortedHeap_at (vs := vs) (out := out) hoL
  obtain ⟨L', e', hs'⟩ := rows_of (L := L) out.toList fun v hv => by
    obtain ⟨q, hq, e⟩ := List.mem_map.mp (pm.mem_iff.mp (a1.mem_iff.mp hv))
    exact ⟨q, hq, e.symm⟩
  have pL : L'.Perm L := by
    have pm1 : (L'.map (fun q => Value.ref q.1)).Perm (L.map fun q => Value.ref q.1) := by
      rw [← e']
      exact a1.trans pm
    have n1 : L'.Nodup := nodup_of_map (pm1.nodup_iff.mpr nref)
    refine (List.perm_ext_iff_of_nodup n1 nL).mpr fun q => ⟨hs' q, fun hq => ?_⟩
    obtain ⟨r, hr, e⟩ := List.mem_map.mp (pm1.mem_iff.mpr (List.mem_map.mpr ⟨q, hq, rfl⟩))
    injection e with e
    rw [← uniq r (hs' r hr) q hq e]
    exact hr
  have pw : L'.Pairwise (fun q r => cdS c B q.2 ≤ cdS c B r.2) := by
    rw [e'] at a2
    refine List.Pairwise.imp_of_mem (fun {q r} hq hr hle => ?_) (List.pairwise_map.mp a2)
    rw [← (tk q (hs' q hq)).ints, ← (tk r (hs' r hr)).ints]
    exact hle
  refine wpAny_pure ⟨_, rfl, hQ _ s1.heap.objs.size out n L' (fun b u e => ?_) g1 o1 hz hc e' pL pw⟩
  have q := k1 b u e
  have hlt := Heap.lt_size q
  show (sortedHeap (s1.heap.push (seqObj "list" vs.toArray 0)) s1.heap.objs.size vs out).get? b = some u
  rw [sortedHeap_old (Nat.ne_of_lt hlt) (by rw [size_push']; exact Nat.lt_succ_of_lt hlt)]
  exact Heap.get?_push_of_some _ q
end
section
variable {X : Cx}
def rSrtSet (K : PySem.W.Frag) (P : Program) (w : World) (d : Nat) (c B : Int) : List V → Hp → VK → Prop := fun vs H Q => ∃ (a : Addr) (L : List (Addr × List Int)), vs = [V.ref a] ∧ H a = some (SetTO P w a L) ∧ (∀ p ∈ L, SqT K H p.1 (p.2.map V.int)) ∧ (∀ p ∈ L, p.2.length = d ∧ BdS c B p.2) ∧
  ∀ (L' : List (Addr × List Int)) (p : Addr), L'.Perm L → (L'.map (·.2)).Nodup → L'.Pairwise (fun q r => cdS c B q.2 ≤ cdS c B r.2) → H p = none → Q (.ref p) (upd H p (.lst (L'.map fun q => V.ref q.1)))
theorem cr_srtSet {d : Nat} {c B : Int} (hd : 1 ≤ d) (hc : X.calm = true) : CallR X (.builtin "sorted") (rSrtSet X.K X.prog X.w d c B) := by
  intro pins s σ H xs us Q I r h
  obtain ⟨a, L, rfl, ha, hk, hB, q⟩ := h
  obtain ⟨es, ep, t, R⟩ := (show SetT0 X.prog X.w s.heap a L from (I.hok a _ ha).1).full fun p hp => I.isT (hk p hp)
  rw [Vals.ref1 r]
  refine sorted_setS R (I.ok.hd hc) hd hB fun s' p out n L' k g o hp hg hout pm pw => ?_
  have hfew : L'.length < 64 := by
    rw [pm.length_eq]
    exact R.few
  have hn : H p = none := I.hok.fresh hp
  have hv : Vals (L'.map fun q => V.ref q.1) out.toList := by
    rw [hout]
    exact vals_of_refs L'
  have J : Inv X pins σ (upd H p (.lst (L'.map fun q => V.ref q.1))) { s with heap := s'.heap, gens := s'.gens, drawn := s'.drawn, toks := s'.toks } :=
    I.call (ch := []) (Un.laid k hp hn) (I.hok.laid k hp ⟨by rw [List.length_map, sizeLine_eq]; omega, out.toList, n, hv, hg⟩) (by rw [g]; exact I.bare) (fun _ z => nomatch z)
  have e : s' = { s with heap := s'.heap, gens := s'.gens, drawn := s'.drawn, toks := s'.toks } := by
    cases s'
    cases s
    cases o
    rfl
  rw [e]
  exact ⟨.ref p, _, J, rfl, q L' p pm ((pm.map (·.2)).nodup_iff.mpr R.nd) pw hn⟩
def rSrtList (K : PySem.W.Frag) (d : Nat) (c B : Int) : List V → Hp → VK → Prop := fun vs H Q => ∃ (a : Addr) (xs : List V) (f : V → List Int), vs = [V.ref a] ∧ SqL K H a xs ∧ xs.length < 64 ∧ (∀ x ∈ xs, ∃ t, x = .ref t ∧ SqT K H t ((f x).map V.int) ∧ (f x).length = d ∧ BdS c B (f x)) ∧
  ∀ (ys : List V) (p : Addr), ys.Perm xs → ys.Pairwise (fun x y => cdS c B (f x) ≤ cdS c B (f y)) → H p = none → Q (.ref p) (upd H p (.lst ys))
theorem cr_srtList {d : Nat} {c B : Int} (hd : 1 ≤ d) : CallR X (.builtin "sorted") (rSrtList X.K d c B) := by
  intro pins s σ H xs us Q I r h
  obtain ⟨a, xs, f, rfl, hs, h64, hx, q⟩ := h
  obtain ⟨its, rv, hl, hz⟩ := I.list hs
  rw [Vals.ref1 r]
  obtain ⟨e1, e2⟩ := bkV_refs rv fun x m => by
    obtain ⟨t, e, _⟩ := hx x m
    exact ⟨t, e⟩
  have hin : ∀ v ∈ its, ∃ x ∈ xs, x = bkV v ∧ TS.TupInts s.heap v (f x) ∧ (f x).length = d ∧ BdS c B (f x) := fun v hv => by
    obtain ⟨t, rfl⟩ := e2 v hv
    have hm : V.ref t ∈ xs := by
      rw [e1]
      exact List.mem_map.mpr ⟨_, hv, rfl⟩
    obtain ⟨t', e, ht, hb⟩ := hx _ hm
    cases e
    exact ⟨_, hm, rfl, tupI_raw I ht, hb⟩
  refine sorted_listS (d := d) (c := c) (B := B) hl.isList (by rw [← rv.length]; exact h64) hd (fun v hv => ?_) fun out h1 h2 => ?_
  · obtain ⟨x, _, _, h3, h4⟩ := hin v hv
    exact ⟨_, h3, h4⟩
  · obtain ⟨ep, he'⟩ := PyProof.Rows.sortedAll_at s.heap its out
    have hp : (out.toList.map bkV).Perm xs := by
      rw [e1]
      exact h1.map bkV
    refine ⟨.ref _, upd H (s.heap.objs.size + 1) (.lst (out.toList.map bkV)), I.laid (t' := s.toks) (fun _ _ => PyProof.Rows.sortedAll_old) (Nat.le_succ _) ⟨by rw [hp.length_eq]; exact hz, out.toList, ep, bkV_vals fun u hu => e2 u (h1.mem_iff.mp hu), he'⟩, rfl, q _ _ hp ?_ (I.hok.fresh (Nat.le_succ _))⟩
    rw [List.pairwise_map]
    refine List.Pairwise.imp_of_mem (fun {u v} hu hv huv => ?_) h2
    obtain ⟨x, _, ex, tx, _⟩ := hin u (h1.mem_iff.mp hu)
    obtain ⟨y, _, ey, ty, _⟩ := hin v (h1.mem_iff.mp hv)
    rw [← ex, ← ey, ← tx.ints, ← ty.ints]
    exact huv
end

/-! ### the sorted list, in data -/
theorem perm_unique {α : Type} {le : α → α → Prop} : ∀ {xs ys : List α}, xs.Perm ys → xs.Pairwise le → ys.Pairwise le → (∀ x ∈ xs, ∀ y ∈ xs, le x y → le y x → x = y) → xs = ys
  | [], ys, p, _, _, _ => (List.nil_perm.mp p).symm
  | x :: xs, [], p, _, _, _ => absurd p.length_eq (by simp)
  | x :: xs, y :: ys, p, h1, h2, h => by
    rw [List.pairwise_cons] at h1 h2
    have exy : x = y := by
      rcases List.mem_cons.mp (p.mem_iff.mp (List.mem_cons_self (a := x) (l := xs))) with e | e
      · exact e
      · rcases List.mem_cons.mp (p.mem_iff.mpr (List.mem_cons_self (a := y) (l := ys))) with e2 | e2
        · exact e2.symm
        · exact h x List.mem_cons_self y (List.mem_cons_of_mem _ e2) (h1.1 y e2) (h2.1 x e)
    subst exy
    rw [perm_unique (List.perm_cons x |>.mp p) h1.2 h2.2 fun a ha b hb => h a (List.mem_cons_of_mem _ ha) b (List.mem_cons_of_mem _ hb)]
/-- ascending -/
def lsort (xs : List (List Int)) : List (List Int) := xs.mergeSort fun a b => !HT.lexLt b a
/-- every one once -/
def dd : List (List Int) → List (List Int)
  | [] => []
  | x :: xs => if x ∈ dd xs then dd xs else x :: dd xs
theorem dd_mem {x : List Int} : ∀ {xs : List (List Int)}, x ∈ dd xs ↔ x ∈ xs
  | [] => Iff.rfl
  | y :: xs => by
    unfold dd
    have ih := dd_mem (x := x) (xs := xs)
    split
    · rename_i h
      rw [ih, List.mem_cons]
      exact ⟨.inr, fun z => z.elim (fun e => e ▸ dd_mem.mp h) id⟩
    · rw [List.mem_cons, List.mem_cons, ih]
theorem dd_nodup : ∀ xs : List (List Int), (dd xs).Nodup
  | [] => List.nodup_nil
  | y :: xs => by
    unfold dd
    split
    · exact dd_nodup xs
    · rename_i h
      exact List.nodup_cons.mpr ⟨h, dd_nodup xs⟩
theorem cdS_inj {c B : Int} {ns ms : List Int} (hl : ns.length = ms.length) (h1 : BdS c B ns) (h2 : BdS c B ms) (e1 : cdS c B ns ≤ cdS c B ms) (e2 : cdS c B ms ≤ cdS c B ns) : ns = ms := by
  induction ns generalizing ms with
  | nil =>
    cases ms with
    | nil => rfl
    | cons _ _ => cases hl
  | cons p ns ih =>
    cases ms with
    | nil => cases hl
    | cons q ms =>
      have hl' : ns.length = ms.length := Nat.succ.inj hl
      have t1 : BdS c B ns := fun m hm => h1 m (List.mem_cons_of_mem _ hm)
      have t2 : BdS c B ms := fun m hm => h2 m (List.mem_cons_of_mem _ hm)
      rcases Int.lt_trichotomy p q with y | y | y
      · have := cdS_cons_lt hl' t1 t2 y
        omega
      · subst y
        have a1 := cdS_cons_same (c := c) (B := B) (p := p) hl'
        have a2 := cdS_cons_same (c := c) (B := B) (p := p) hl'.symm
        rw [ih hl' t1 t2 (Int.not_lt.mp fun z => by have := a2.mpr z; omega) (Int.not_lt.mp fun z => by have := a1.mpr z; omega)]
      · have := cdS_cons_lt hl'.symm t2 t1 y
        omega
theorem lexLt_irr : ∀ ns : List Int, HT.lexLt ns ns = false
  | [] => rfl
  | n :: ns => by rw [HT.lexLt_cons, if_pos rfl, lexLt_irr ns]
/-- what was sorted by the code is lsort -/
theorem lsort_of {d : Nat} {c B : Int} {xs ys : List (List Int)} (p : ys.Perm xs) (h : ys.Pairwise fun a b => cdS c B a ≤ cdS c B b) (hx : ∀ x ∈ xs, x.length = d ∧ BdS c B x) : ys = lsort xs := by
  have hle : ∀ a ∈ xs, ∀ b ∈ xs, (!HT.lexLt b a) = true ↔ cdS c B a ≤ cdS c B b := fun a ha b hb => by
    rw [← cdS_lex (c := c) (B := B) (by rw [(hx b hb).1, (hx a ha).1]) (hx b hb).2 (hx a ha).2]
    simp
  have pm : (lsort xs).Perm xs := List.mergeSort_perm _ _
  refine perm_unique (le := fun a b => cdS c B a ≤ cdS c B b) (p.trans pm.symm) h ?_ fun a ha b hb e1 e2 => ?_
  · -- over the members the order is total and transitive
    let g : {x // x ∈ xs} → {x // x ∈ xs} → Bool := fun a b => !HT.lexLt b.1 a.1
    have e : lsort xs = (xs.attach.mergeSort g).map (·.1) := by
      unfold lsort
      rw [List.map_mergeSort (r := g) (s := fun a b => !HT.lexLt b a) (f := fun x : {x // x ∈ xs} => x.1) (l := xs.attach) (fun a _ b _ => rfl)]
      simp
    rw [e, List.pairwise_map]
    refine List.Pairwise.imp (fun {a b} hab => (hle a.1 a.2 b.1 b.2).mp hab) (List.pairwise_mergeSort (le := g) (fun a b d h1 h2 => ?_) (fun a b => ?_) xs.attach)
    · have q1 := (hle a.1 a.2 b.1 b.2).mp h1
      have q2 := (hle b.1 b.2 d.1 d.2).mp h2
      exact (hle a.1 a.2 d.1 d.2).mpr (Int.le_trans q1 q2)
    · rcases Int.le_total (cdS c B a.1) (cdS c B b.1) with z | z
      · show (g a b || g b a) = true
        rw [show g a b = true from (hle a.1 a.2 b.1 b.2).mpr z] <;> rfl
      · show (g a b || g b a) = true
        rw [show g b a = true from (hle b.1 b.2 a.1 a.2).mpr z, Bool.or_true]
  · have ma := p.mem_iff.mp ha
    have mb := p.mem_iff.mp hb
    exact cdS_inj (by rw [(hx a ma).1, (hx b mb).1]) (hx a ma).2 (hx b mb).2 e1 e2
end PW
namespace PW
open PySem PySem.Spec PyProof.Rows L2
/-! ### sorted lists, sets of tuples of ints -/
abbrev tupI (ns : List Int) : D := .tup (ns.map D.int)
def vInt : V → Int
  | .int i => i
  | _ => 0
theorem vInt_map : ∀ ns : List Int, (ns.map V.int).map vInt = ns
  | [] => rfl
  | n :: ns => by
    rw [List.map_cons, List.map_cons, vInt_map ns]
    rfl
def vInts (H : Hp) : V → List Int
  | .ref t => (match H t with
    | some (.tup xs) => xs.map vInt
    | _ => [])
  | _ => []
theorem vInts_of {M : List Addr} {H : Hp} {v : V} {ns : List Int} (r : R M H v (tupI ns)) : vInts H v = ns ∧ ∃ t, v = .ref t ∧ H t = some (.tup (ns.map V.int)) := by
  obtain ⟨t, rfl, ht⟩ := r.intsT
  refine ⟨?_, t, rfl, ht⟩
  show (match H t with
    | some (.tup xs) => xs.map vInt
    | _ => []) = ns
  rw [ht]
  exact vInt_map ns
theorem RA.mem {M : List Addr} {H : Hp} : ∀ {vs : List V} {ds : List D}, RA M H vs ds → ∀ v ∈ vs, ∃ d ∈ ds, R M H v d
  | _, _, .nil, v, h => by cases h
  | _, _, .cons r t, v, h => by
    rcases List.mem_cons.mp h with e | h
    · rw [e]
      exact ⟨_, List.mem_cons_self, r⟩
    · obtain ⟨d, h1, h2⟩ := RA.mem t v h
      exact ⟨d, List.mem_cons_of_mem _ h1, h2⟩
theorem RA.tups {M : List Addr} {H : Hp} : ∀ {vs : List V} {xs : List (List Int)}, RA M H vs (xs.map tupI) → vs.map (vInts H) = xs
  | _, [], h => by
    cases h
    rfl
  | _, x :: xs, h => by
    cases h with
    | cons r t => rw [List.map_cons, (vInts_of r).1, RA.tups t]
theorem RA.ofAll {M : List Addr} {H : Hp} {f : V → D} : ∀ {vs : List V}, (∀ v ∈ vs, R M H v (f v)) → RA M H vs (vs.map f)
  | [], _ => .nil
  | v :: vs, h => .cons (h v List.mem_cons_self) (RA.ofAll fun u hu => h u (List.mem_cons_of_mem _ hu))
section
variable {X : Cx} {M : List Addr} {os os1 os2 os3 : List MO} {δ δ' : List (Option D)} {a b c e tg iter elt : Expr} {pos p : Pos} {d : D}
theorem b_sortedL {k : Nat} {cc B : Int} {xs : List (List Int)} (hd : 1 ≤ k) (h64 : xs.length < 64) (hx : ∀ x ∈ xs, x.length = k ∧ BdS cc B x) : Blt X M os (.builtin "sorted") [.lst (xs.map tupI)] (.lst ((lsort xs).map tupI)) := ⟨_, cr_srtList (d := k) (c := cc) (B := B) hd, fun vs H Q s r q => by
  obtain ⟨v, ev, r1⟩ := r.one
  subst ev
  cases r1 with
  | @lst a ws _ h1 hm hr =>
    have ht := hr.tups
    have each : ∀ x ∈ ws, R M H x (tupI (vInts H x)) ∧ vInts H x ∈ xs := fun x hx => by
      obtain ⟨d, hd, rd⟩ := hr.mem x hx
      obtain ⟨ns, hn, e⟩ := List.mem_map.mp hd
      subst e
      rw [(vInts_of rd).1]
      exact ⟨rd, hn⟩
    refine ⟨a, ws, vInts H, rfl, .inl (.of h1), by rw [hr.length, List.length_map]; exact h64, fun x hxm => ?_, fun ys p pm pw hp => ?_⟩
    · obtain ⟨rx, hin⟩ := each x hxm
      obtain ⟨t, e, ht⟩ := (vInts_of rx).2
      exact ⟨t, e, .inl (.of ht), hx _ hin⟩
    · have e : ys.map (vInts H) = lsort xs := by
        refine lsort_of (d := k) (c := cc) (B := B) ?_ (by rw [List.pairwise_map]; exact pw) hx
        rw [← ht]
        exact pm.map _
      refine q _ _ (Ext.new hp) (new_lst s hp ?_)
      rw [← e, List.map_map]
      exact RA.ofAll (f := tupI ∘ vInts H) fun y hy => (each y (pm.mem_iff.mp hy)).1⟩
/-- a set of tuples of ints: the keys ks -/
def tSetE (P : Program) (w : World) (M : List Addr) (os : List MO) (δ : List (Option D)) (ks : List (List Int)) (os' : List MO) : TE := fun σ H Q => Sok M os H ∧ EnvR M H σ δ ∧ ∀ D H' L, Keep M H H' → Sok M os' H' → H' D = some (SetTO P w D L) → (∀ p ∈ L, R M H' (.ref p.1) (tupI p.2)) → (∀ k, k ∈ L.map (·.2) ↔ k ∈ ks) → Q (.ref D) H'
abbrev EvS (X : Cx) (M : List Addr) (os : List MO) (δ : List (Option D)) (e : Expr) (ks : List (List Int)) (os' : List MO) : Prop := PE X e (tSetE X.prog X.w M os δ ks os')
theorem pairsV {H : Hp} : ∀ {ws : List V} {xs : List (List Int)}, RA M H ws (xs.map tupI) → ∃ ks : List (Addr × List Int), ws = ks.map (fun p => V.ref p.1) ∧ ks.map (·.2) = xs ∧ ∀ p ∈ ks, R M H (.ref p.1) (tupI p.2) ∧ H p.1 = some (.tup (p.2.map V.int))
  | _, [], h => by
    cases h
    exact ⟨[], rfl, rfl, fun p hp => by cases hp⟩
  | _, x :: xs, h => by
    cases h with
    | cons r t =>
      obtain ⟨ks, e1, e2, e3⟩ := pairsV t
      obtain ⟨t0, e, ht⟩ := (vInts_of r).2
      subst e
      exact ⟨(t0, x) :: ks, by rw [List.map_cons, e1], by rw [List.map_cons, e2], fun p hp => (List.mem_cons.mp hp).elim (fun z => by rw [z]; exact ⟨r, ht⟩) (e3 p)⟩
theorem ev_setOf {j : Nat} {xs : List (List Int)} (hr : Room j X.A) (hc : X.calm = true) (hm : X.mg "set" = none) (ha : Arg X M os δ [e] [.lst (xs.map tupI)] os1) (h64 : xs.length < 64) (hg : Gl X "set" := by rfl)
    (he : starEach [e] X.env = (false, eval e X.env) :: starEach [] X.env := by rfl) (hpl : (backTo pos (starEach [] X.env)).any (·.1) = false := by rfl) : EvS X M os δ (.Call (.Name "set" p) [e] [] pos) xs os1 :=
  pe_imp (pe_callTy (cr_setOfT hc hr.units) hg hm boot_set ha (by decide) (by decide) he hpl) fun σ H Q ⟨s, en, k⟩ => ⟨s, en, fun vs H1 k1 s1 r1 => by
    obtain ⟨v, ev, rv⟩ := r1.one
    subst ev
    cases rv with
    | @lst l ws _ h1 hm hx =>
      obtain ⟨ks, e1, e2, e3⟩ := pairsV hx
      have hl : ks.length = xs.length := by rw [← e2, List.length_map]
      refine ⟨l, ks, rfl, .inl (.of (by rw [h1, e1])), fun p hp => .inl (.of (e3 p hp).2), by omega, fun a L ha hin hall => ?_⟩
      have ex := Ext.new (o := SetTO X.prog X.w a L) ha
      refine k a _ L (k1.trans ex.keep) (s1.ext ex) upd_same (fun p hp => (e3 p (hin p hp)).1.keep ex.keep) fun kk => ⟨fun h => ?_, fun h => ?_⟩
      · obtain ⟨p, hp, e⟩ := List.mem_map.mp h
        rw [← e2, ← e]
        exact List.mem_map.mpr ⟨p, hin p hp, rfl⟩
      · rw [← e2] at h
        obtain ⟨p, hp, e⟩ := List.mem_map.mp h
        rw [← e]
        exact hall p hp⟩
theorem ev_sortedS {k : Nat} {cc B : Int} {xs : List (List Int)} (hc : X.calm = true) (hm : X.mg "sorted" = none) (ha : EvS X M os δ e xs os1) (hd : 1 ≤ k) (hx : ∀ x ∈ xs, x.length = k ∧ BdS cc B x) (hg : Gl X "sorted" := by rfl)
    (he : starEach [e] X.env = (false, eval e X.env) :: starEach [] X.env := by rfl) (hpl : (backTo pos (starEach [] X.env)).any (·.1) = false := by rfl) : Ev X M os δ (.Call (.Name "sorted" p) [e] [] pos) (.lst ((lsort (dd xs)).map tupI)) os1 :=
  pe_imp (pe_callB (cr_srtSet (d := k) (c := cc) (B := B) hd hc) hg hm boot_sorted (pa_cons ha pa_nil he) (by decide) (by decide) he hpl) fun σ H Q ⟨s, en, q⟩ => ⟨s, en, fun D H1 L k1 s1 hD hL hks => by
    have mem : ∀ p ∈ L, p.2 ∈ xs := fun p hp => (hks _).mp (List.mem_map.mpr ⟨p, hp, rfl⟩)
    refine ⟨D, L, rfl, hD, fun p hp => ?_, fun p hp => hx _ (mem p hp), fun L' p pm nd pw hp => ?_⟩
    · obtain ⟨t, e, ht⟩ := (vInts_of (hL p hp)).2
      cases e
      exact .inl (.of ht)
    · have e : L'.map (·.2) = lsort (dd xs) := by
        refine lsort_of (d := k) (c := cc) (B := B) ?_ (by rw [List.pairwise_map]; exact pw) fun x hxm => hx _ (dd_mem.mp hxm)
        refine (List.perm_ext_iff_of_nodup nd (dd_nodup xs)).mpr fun kk => ?_
        rw [dd_mem, ← hks kk]
        exact (pm.map _).mem_iff
      refine q _ _ (k1.trans (Ext.new hp).keep) (s1.ext (Ext.new hp)) (new_lst s1 hp ?_)
      rw [← e, List.map_map]
      have : ∀ l : List (Addr × List Int), (∀ p ∈ l, p ∈ L) → RA M H1 (l.map fun q => V.ref q.1) (l.map (tupI ∘ fun x => x.2)) := by
        intro l
        induction l with
        | nil => exact fun _ => .nil
        | cons p l ih => exact fun h => .cons (hL p (h p List.mem_cons_self)) (ih fun q hq => h q (List.mem_cons_of_mem _ hq))
      exact this L' fun p hp => pm.mem_iff.mp hp⟩
/-- {elt for tg in iter}, elt a tuple of ints -/
theorem ev_setC {α : Type} {j : Nat} {scope : Scope} {own : List (Str × Nat)} {sl : List Nat} {φ} (xs : List α) (enc : α → D) (v : α → List Int) (hr : Room j X.A) (hi : Wk X M os δ tg iter (xs.map enc) os1) (ok : BlkOk X.N X.env.scope scope own)
    (hg : ∀ L s H C cl fp, Tgt (Cx.bk X scope s H C cl fp) (L :: M) tg sl φ) (hb : ∀ x ∈ xs, ∃ δ2, φ (enc x) (wipeD δ (own.map (·.2))) = some δ2 ∧ ∀ (L : Addr) (o : HO) s H C cl fp, Ev (Cx.bk X scope s H C cl fp) (L :: M) (.opq o :: os1) δ2 elt (tupI (v x)) (.opq o :: os1)) (hz : xs.length < 63)
    (hc : X.calm = true) (hN : X.N.Nodup) (hv : ∀ j ∈ sl, j ∈ own.map (·.2) := by decide) (hs : ∀ x, foldedSetIterable iter X.env x = pure x := by intro _; rfl) : EvS X M os δ (.SetComp elt [⟨tg, iter, [], 0⟩] scope pos) (xs.map v) os1 := by
  refine pe_imp (pe_scT (g := fun w σ H Q => ∃ L, gD (L :: M) sl φ w σ H Q) (te := fun σ H Q => ∃ x δ2 L o, x ∈ xs ∧ φ (enc x) (wipeD δ (own.map (·.2))) = some δ2 ∧ tE (L :: M) (.opq o :: os1) δ2 (tupI (v x)) (.opq o :: os1) σ H Q) (by have := hr.units; omega) hc hN hi ok
    (fun s H C cl fp => ⟨fun pins s1 σ H1 w u Q I r ⟨L, h⟩ => (hg L s H C cl fp).run pins s1 σ H1 w u Q I r h⟩) (fun s H C cl fp => ⟨fun pins s1 σ H1 Q I ⟨x, δ2, L, o, hx, hφ, h⟩ => ?_⟩) hs) ?_
  · obtain ⟨δ3, e3, q⟩ := hb x hx
    rw [hφ] at e3
    cases e3
    exact (q L o s H C cl fp).run pins s1 σ H1 Q I h
  · rintro σ H Q ⟨s, en, kq⟩
    refine ⟨s, en, fun J H1 k1 s1 ok D hD => ?_⟩
    have hdL : ∀ a, H1 a ≠ none → a ∉ M → a ∉ D :: M := fun a ha hn z => by
      rcases List.mem_cons.mp z with z | z
      · exact ha (z ▸ hD)
      · exact hn z
    have okL := ok (D :: M) hdL fun a h => List.mem_cons_of_mem _ h
    have ex := Ext.new (o := SetTO X.prog X.w D []) hD
    have sL : Sok (D :: M) (.opq (SetTO X.prog X.w D []) :: os1) (upd H1 D (SetTO X.prog X.w D [])) := s1.more hD ex upd_same
    have enL : EnvR (D :: M) (upd H1 D (SetTO X.prog X.w D [])) σ δ := ((en.keep k1).more hD).keep ex.keep
    have St : Nat → Hp → Prop := fun i H2 => True
    refine ⟨fun i m H2 => m = xs.length - i ∧ i ≤ xs.length ∧ Keep (D :: M) (upd H1 D (SetTO X.prog X.w D [])) H2 ∧ ∃ L, Sok (D :: M) (.opq (SetTO X.prog X.w D L) :: os1) H2 ∧ L.length ≤ i ∧ (∀ p ∈ L, R (D :: M) H2 (.ref p.1) (tupI p.2)) ∧ (∀ k, k ∈ L.map (·.2) ↔ k ∈ (xs.take i).map v),
      ⟨xs.length, by simp, Nat.zero_le _, .refl, [], sL, Nat.le_refl _, (fun p hp => by cases hp), fun k => by simp⟩, ?_⟩
    rintro i m H2 ⟨rfl, hi, k2, L, s2, hlen, hR, hk⟩
    have hL2 : H2 D = some (SetTO X.prog X.w D L) := s2.at_ 0 D _ rfl rfl
    have k0 : Keep (D :: M) H1 H2 := Keep.trans ex.keep k2
    obtain ⟨go, stop⟩ := okL i H2 k0 s2.dom
    by_cases hl : i < xs.length
    · have hx : xs[i] ∈ xs := List.getElem_mem hl
      have hdx : (xs.map enc)[i]? = some (enc xs[i]) := by rw [List.getElem?_map, List.getElem?_eq_getElem hl] <;> rfl
      obtain ⟨g1, g2⟩ := go (enc xs[i]) hdx
      obtain ⟨δ2, q1, q2⟩ := hb xs[i] hx
      have htk : xs.take (i + 1) = xs.take i ++ [xs[i]] := by rw [List.take_add_one, List.getElem?_eq_getElem hl] <;> rfl
      refine .inr ⟨g1, fun H3 => Keep (D :: M) (upd H1 D (SetTO X.prog X.w D [])) H3 ∧ ∃ L, Sok (D :: M) (.opq (SetTO X.prog X.w D L) :: os1) H3 ∧ L.length ≤ i + 1 ∧ (∀ p ∈ L, R (D :: M) H3 (.ref p.1) (tupI p.2)) ∧ (∀ k, k ∈ L.map (·.2) ↔ k ∈ (xs.take (i + 1)).map v), fun H3 w => ⟨xs.length - (i + 1), by omega, rfl, hl, w⟩, fun x H3 y => ?_⟩
      obtain ⟨x1, x2⟩ := g2 x H3 y
      have en3 : EnvR (D :: M) H3 (L2.wipe σ (own.map (·.2))) (wipeD δ (own.map (·.2))) := ((enL.keep k2).keep x1.keep).wipe _
      refine ⟨D, enc xs[i], wipeD δ (own.map (·.2)), δ2, x2, en3, q1, fun σ4 e4 w4 => ⟨?_, xs[i], δ2, D, SetTO X.prog X.w D L, hx, q1, s2.ext x1, e4, fun y4 H5 k5 s5 r5 => ?_⟩⟩
      · rw [w4 _ hv]
        have gen : ∀ (us ws : List Nat) (τ : L2.St), (∀ j ∈ us, j ∈ ws) → L2.wipe (L2.wipe τ us) ws = L2.wipe τ ws := by
          intro us
          induction us with
          | nil => intro ws τ _; rfl
          | cons u us ih =>
            intro ws τ h
            show L2.wipe ((L2.wipe τ us).set u none) ws = L2.wipe τ ws
            rw [wipe_set (h u List.mem_cons_self), ih ws τ fun j hj => h j (List.mem_cons_of_mem _ hj)]
        exact gen _ _ σ fun j h => h
      · obtain ⟨t, et, ht⟩ := (vInts_of r5).2
        subst et
        have hD5 : H5 D = some (SetTO X.prog X.w D L) := s5.at_ 0 D _ rfl rfl
        have k35 : Keep (D :: M) H2 H5 := x1.keep.trans k5
        have hR5 : ∀ p ∈ L, R (D :: M) H5 (.ref p.1) (tupI p.2) := fun p hp => (hR p hp).keep k35
        refine ⟨t, v xs[i], L, rfl, hD5, fun p hp => ?_, .inl (.of ht), by omega, fun L' c1 c2 => ?_⟩
        · obtain ⟨u, e, hu⟩ := (vInts_of (hR5 p hp)).2
          cases e
          exact .inl (.of hu)
        · have kS : Keep (D :: M) H5 (upd H5 D (SetTO X.prog X.w D L')) := Keep.set List.mem_cons_self
          have sS := s5.put (i := 0) (a := D) (o := .opq (SetTO X.prog X.w D L')) rfl kS (fun b hb _ => upd_ne hb) upd_same
          refine ⟨(k2.trans k35).trans kS, L', sS, ?_, fun p hp => ?_, fun kk => ?_⟩
          · rcases Classical.em (v xs[i] ∈ L.map (·.2)) with z | z
            · rw [c1 z]
              omega
            · rw [(c2 z).length_eq, List.length_cons]
              omega
          · rcases Classical.em (v xs[i] ∈ L.map (·.2)) with z | z
            · rw [c1 z] at hp
              exact (hR5 p hp).keep kS
            · rcases List.mem_cons.mp ((c2 z).mem_iff.mp hp) with e | h
              · rw [e]
                exact r5.keep kS
              · exact (hR5 p h).keep kS
          · rw [htk, List.map_append, List.mem_append]
            rcases Classical.em (v xs[i] ∈ L.map (·.2)) with z | z
            · rw [c1 z, hk kk]
              refine ⟨.inl, fun h => h.elim id fun e => ?_⟩
              rw [List.map_singleton, List.mem_singleton] at e
              rw [← hk kk, e]
              exact z
            · rw [((c2 z).map _).mem_iff, List.map_cons, List.mem_cons, hk kk, List.map_singleton, List.mem_singleton]
              exact or_comm
    · have e : i = xs.length := by omega
      subst e
      rw [List.take_length] at hk
      exact .inl ⟨stop (by rw [List.length_map]), kq D H2 L (k1.trans (Keep.fill hD k2)) s2.less hL2 (fun p hp => (hR p hp).less) hk⟩
end
end PW
namespace PW
open PySem PySem.Spec PyProof.Rows L2
/-! ### tables -/
theorem valV_at : ∀ {kvs : List (Key × V)} {j : Nat} {k : Key}, (kvs.map (·.1)).Nodup → (kvs.map (·.1))[j]? = some k → valV kvs k = (kvs.map (·.2))[j]?
  | [], j, k, _, h => by simp at h
  | p :: kvs, 0, k, _, h => by
    have e : p.1 = k := by simpa using h
    rw [valV_pos e]
    rfl
  | p :: kvs, j + 1, k, nd, h => by
    rw [List.map_cons, List.nodup_cons] at nd
    have h' : (kvs.map (·.1))[j]? = some k := by simpa using h
    rw [valV_neg (fun e => nd.1 (by rw [e]; exact List.mem_of_getElem? h')), valV_at nd.2 h']
    rfl
theorem putK_at : ∀ {kvs : List (Key × V)} {j : Nat} {k : Key} {v : V}, (kvs.map (·.1)).Nodup → (kvs.map (·.1))[j]? = some k → (putK kvs k v).map (·.1) = kvs.map (·.1) ∧ (putK kvs k v).map (·.2) = (kvs.map (·.2)).set j v := fun {kvs j k v} nd h => by
  have hm : k ∈ kvs.map (·.1) := List.mem_of_getElem? h
  obtain ⟨p, hp, ep⟩ := List.mem_map.mp hm
  have e : putK kvs k v = kvs.map fun kv => if kv.1 = k then (kv.1, v) else kv := by
    unfold putK
    rw [if_pos]
    exact List.any_eq_true.mpr ⟨p, hp, decide_eq_true ep⟩
  rw [e, List.map_map, List.map_map]
  clear e hm hp ep p
  induction kvs generalizing j with
  | nil => simp at h
  | cons q kvs ih =>
    rw [List.map_cons, List.nodup_cons] at nd
    cases j with
    | zero =>
      have eq : q.1 = k := by simpa using h
      have ne : ∀ kv ∈ kvs, kv.1 ≠ k := fun kv hkv z => nd.1 (by rw [eq, ← z]; exact List.mem_map.mpr ⟨kv, hkv, rfl⟩)
      have r1 : kvs.map ((fun x => x.1) ∘ fun kv => if kv.1 = k then (kv.1, v) else kv) = kvs.map (·.1) := List.map_congr_left fun kv hkv => by simp [ne kv hkv]
      have r2 : kvs.map ((fun x => x.2) ∘ fun kv => if kv.1 = k then (kv.1, v) else kv) = kvs.map (·.2) := List.map_congr_left fun kv hkv => by simp [ne kv hkv]
      refine ⟨?_, ?_⟩
      · rw [List.map_cons, List.map_cons, r1]
        simp [eq]
      · rw [List.map_cons, List.map_cons, r2]
        simp [eq]
    | succ j =>
      have h' : (kvs.map (·.1))[j]? = some k := by simpa using h
      have ne : q.1 ≠ k := fun z => nd.1 (by rw [z]; exact List.mem_of_getElem? h')
      obtain ⟨i1, i2⟩ := ih nd.2 h'
      refine ⟨?_, ?_⟩
      · rw [List.map_cons, List.map_cons, i1]
        simp [ne]
      · rw [List.map_cons, List.map_cons, i2]
        simp [ne]
def hasK (ks : List Key) (k : Key) : Bool := ks.any fun x => decide (x = k)
theorem hasK_iff {ks : List Key} {k : Key} : hasK ks k = true ↔ k ∈ ks := by
  unfold hasK
  rw [List.any_eq_true]
  exact ⟨fun ⟨p, h, e⟩ => of_decide_eq_true e ▸ h, fun h => ⟨k, h, decide_eq_true rfl⟩⟩
theorem valV_some {kvs : List (Key × V)} {k : Key} : (valV kvs k).isSome = hasK (kvs.map (·.1)) k := by
  rw [← valV_any]
  unfold hasK
  rw [List.any_map]
  rfl
section
variable {X : Cx} {M : List Addr} {os os1 os2 os3 : List MO} {δ δ' : List (Option D)} {a b c e tg iter elt kx vx : Expr} {pos p : Pos} {d : D} {j : Nat} {ks : List Key} {ds : List D} {k : Key} {rest : List Stmt} {kt : Kt}
theorem R.key {M : List Addr} {H : Hp} {x : V} {i : Int} (r : R M H x (.int i)) : x = kV (.inl i) := by
  cases r
  rfl
/-- k in d -/
theorem ev_din {i : Int} (hr : Room j X.A) (ha : Ev X M os δ a (.int i) os1) (hb : Ev X M os1 δ b (.dic ks ds) os2) (hm : behindInMarks CmpOp.In b = false := by rfl) : Ev X M os δ (.Compare a [.In] [b] pos) (.bl (hasK ks (.inl i))) os2 :=
  pe_imp (pe_cmp (pc_din (by have := hr.units0; have := hr.un; omega) ha hb) hm) fun σ H Q ⟨s, en, q⟩ => ⟨s, en, fun v H1 k1 s1 r1 => ⟨s1, en.keep k1, fun u H2 k2 s2 r2 => by
    cases r2 with
    | @dic q0 kvs _ _ h1 hm hk hx =>
      refine ⟨q0, valV kvs (.inl i), rfl, ?_, ?_⟩
      · rw [r1.key]
        exact DGet.k h1
      · rw [valV_some, hk]
        exact q _ _ (k1.trans k2) s2 (.bl _)⟩⟩
theorem tst_din {i : Int} (hr : Room j X.A) (ha : Ev X M os δ a (.int i) os1) (hb : Ev X M os1 δ b (.dic ks ds) os2) (hm : behindInMarks CmpOp.In b = false := by rfl) : Tst X M os δ (.Compare a [.In] [b] pos) (hasK ks (.inl i)) os2 :=
  pt_imp (pt_cmp (pc_din (by have := hr.units0; have := hr.un; omega) ha hb) hm) fun σ H Q ⟨s, en, q⟩ => ⟨s, en, fun v H1 k1 s1 r1 => ⟨s1, en.keep k1, fun u H2 k2 s2 r2 => by
    cases r2 with
    | @dic q0 kvs _ _ h1 hm hk hx =>
      refine ⟨q0, valV kvs (.inl i), rfl, ?_, ?_⟩
      · rw [r1.key]
        exact DGet.k h1
      · rw [valV_some, hk]
        exact ⟨_, rfl, q _ (k1.trans k2) s2⟩⟩⟩
/-- d[k], the key at place n -/
theorem ev_dget {i : Int} (n : Nat) (hr : Room j X.A) (ha : Ev X M os δ a (.dic ks ds) os1) (hb : Ev X M os1 δ b (.int i) os2) (hn : ks[n]? = some (.inl i)) (hd : ds[n]? = some d) (nd : ks.Nodup) (hs : NoSl b := by exact fun _ _ => rfl) : Ev X M os δ (.Subscript a b pos) d os2 :=
  pe_imp (pe_dget (by have := hr.un; omega) ha hb hs) fun σ H Q ⟨s, en, q⟩ => ⟨s, en, fun v H1 k1 s1 r1 => ⟨s1, en.keep k1, fun u H2 k2 s2 r2 => by
    cases r1 with
    | @dic q0 kvs _ _ h1 hm hk hx =>
      obtain ⟨w, hw, rw'⟩ := hx.get hd
      refine ⟨q0, w, rfl, ?_, q _ _ (k1.trans k2) s2 (rw'.keep k2)⟩
      rw [r2.key]
      have e := valV_at (kvs := kvs) (by rw [hk]; exact nd) (by rw [hk]; exact hn)
      rw [hw] at e
      rw [← e]
      exact DGet.k (k2.old _ _ hm h1)⟩⟩
/-- a table that changes: t['name'], t['name'] = v -/
theorem ev_dgetM {x : Str} {A : Addr} (m n : Nat) (hr : Room j X.A) (ha : Ev X M os δ a (.adr A) os1) (hb : Ev X M os1 δ b (.str x) os2) (hm : M[m]? = some A) (ho : os2[m]? = some (.dic ks ds)) (hn : ks[n]? = some (.inr x)) (hd : ds[n]? = some d) (nd : ks.Nodup) (hs : NoSl b := by exact fun _ _ => rfl) : Ev X M os δ (.Subscript a b pos) d os2 :=
  pe_imp (pe_dget (by have := hr.un; omega) ha hb hs) fun σ H Q ⟨s, en, q⟩ => ⟨s, en, fun v H1 k1 s1 r1 => ⟨s1, en.keep k1, fun u H2 k2 s2 r2 => by
    cases r1
    cases r2
    obtain ⟨kvs, h1, hk, hx⟩ := s2.at_ m A _ hm ho
    obtain ⟨w, hw, rw'⟩ := hx.get hd
    refine ⟨A, w, rfl, ?_, q _ _ (k1.trans k2) s2 rw'⟩
    have e := valV_at (kvs := kvs) (by rw [hk]; exact nd) (by rw [hk]; exact hn)
    rw [hw] at e
    rw [← e]
    exact DGet.k (k := .inr x) h1⟩⟩
theorem stm_dput {x : Str} {A : Addr} {p2 : Pos} (m n : Nat) (hr : Room j X.A) (hv : Ev X M os δ e d os1) (ha : Ev X M os1 δ a (.adr A) os2) (hb : Ev X M os2 δ b (.str x) os3) (hm : M[m]? = some A) (ho : os3[m]? = some (.dic ks ds)) (hn : ks[n]? = some (.inr x)) (nd : ks.Nodup) (hz : ks.length ≤ 1000)
    (hrest : Stm X M (os3.set m (.dic ks (ds.set n d))) δ rest kt) (hs : swapsWith e (some (.Subscript a b p2)) pos.line X.env = pure false := by rfl) : Stm X M os δ (.Assign [.Subscript a b p2] e pos :: rest) kt :=
  pss_imp (pss_cons (ps_dput (by have := hr.un; omega) ha hb hv hs) hrest) fun Dn σ H ⟨s, en, nx, r⟩ => ⟨s, en, fun v H1 k1 s1 r1 => ⟨s1, en.keep k1, fun u H2 k2 s2 r2 => ⟨s2, (en.keep k1).keep k2, fun w H3 k3 s3 r3 => by
    cases r2
    cases r3
    obtain ⟨kvs, h1, hk, hx⟩ := s3.at_ m A _ hm ho
    have hzl : kvs.length < sizeLine := by
      have : kvs.length = ks.length := by rw [← hk, List.length_map]
      rw [sizeLine_eq]
      omega
    refine ⟨A, _, rfl, DPut.k (k := .inr x) h1 hzl, ?_⟩
    have kS : Keep M H3 (upd H3 A (.dK (putK kvs (.inr x) v))) := Keep.set (List.mem_of_getElem? hm)
    obtain ⟨e1, e2⟩ := putK_at (v := v) (kvs := kvs) (j := n) (k := .inr x) (by rw [hk]; exact nd) (by rw [hk]; exact hn)
    have sS := s3.put (o := .dic ks (ds.set n d)) hm kS (fun b hb _ => upd_ne hb) ⟨putK kvs (.inr x) v, upd_same, by rw [e1, hk], by
      rw [e2]
      exact ((hx.set ((r1.keep k2).keep k3) n).keep kS)⟩
    exact tS_go (((k1.trans k2).trans k3).trans kS) sS ((((en.keep k1).keep k2).keep k3).keep kS) nx r⟩⟩⟩
theorem ev_dempty : Ev X M os δ (.Dict [] [] pos) (.dic [] []) os := pe_imp pe_dnewK fun σ H Q ⟨s, en, q⟩ => fun p hp => q _ _ (Ext.new hp).keep (s.ext (Ext.new hp)) (.dic upd_same (not_mem_dom s.dom hp) rfl .nil)
/-- sorted(d), keys ints -/
def isort (ns : List Int) : List Int := ns.mergeSort fun a b => decide (a ≤ b)
theorem isort_of {xs ys : List Int} (p : ys.Perm xs) (h : ys.Pairwise (· ≤ ·)) : ys = isort xs := by
  refine perm_unique (le := (· ≤ ·)) (p.trans (List.mergeSort_perm _ _).symm) h ?_ fun a _ b _ => Int.le_antisymm
  refine List.Pairwise.imp (fun {a b} h => of_decide_eq_true h) (List.pairwise_mergeSort (le := fun a b : Int => decide (a ≤ b)) (fun a b c h1 h2 => ?_) (fun a b => ?_) xs)
  · exact decide_eq_true (Int.le_trans (of_decide_eq_true h1) (of_decide_eq_true h2))
  · rcases Int.le_total a b with z | z <;> simp [z]
theorem b_sortedD {ns : List Int} (hc : X.calm = true) (h64 : ns.length < 64) : Blt X M os (.builtin "sorted") [.dic (ns.map Sum.inl) ds] (.lst ((isort ns).map D.int)) := ⟨_, call_sortedDI hc, fun vs H Q s r q => by
  obtain ⟨v, ev, r1⟩ := r.one
  subst ev
  cases r1 with
  | @dic a kvs _ _ h1 hm hk hx =>
    refine ⟨a, kvs, ns, rfl, .of h1, hk, h64, fun ys p pm pw hp => q _ _ (Ext.new hp) (new_lst s hp ?_)⟩
    rw [← isort_of pm pw]
    have : ∀ l : List Int, RA M H (l.map V.int) (l.map D.int) := by
      intro l
      induction l with
      | nil => exact .nil
      | cons x l ih => exact .cons (.int _) ih
    exact this ys⟩
/-- {**d, k: v}, a new key; d, k, v are read without effect -/
theorem ev_dispStar {i : Int} (hr1 : ∀ A o, Ev X (A :: M) (o :: os) δ a (.dic ks ds) (o :: os)) (hk : ∀ A S o o', Ev X (S :: A :: M) (o' :: o :: os) δ b (.int i) (o' :: o :: os)) (hv : ∀ A S o o', Ev X (S :: A :: M) (o' :: o :: os) δ c d (o' :: o :: os)) (hn : hasK ks (.inl i) = false) (hz : ks.length ≤ 1000)
    (hsh : (evalEachOpt [none, some b] X.env).zip ((evalEach [a, c] X.env).map fun v => do let x ← v; standAt pos; pure x) =
      [(none, do let x ← eval a X.env; standAt pos; pure x), (some (eval b X.env), do let x ← eval c X.env; standAt pos; pure x)] := by rfl) : Ev X M os δ (.Dict [none, some b] [a, c] pos) (.dic (ks ++ [.inl i]) (ds ++ [d])) os := by
  have hr2 : PE X a (fun σ H Q => ∃ A o, tE (A :: M) (o :: os) δ (.dic ks ds) (o :: os) σ H Q) := ⟨fun pins s σ H Q I ⟨A, o, w⟩ => (hr1 A o).run pins s σ H Q I w⟩
  have hk2 : PE X b (fun σ H Q => ∃ A S o o', tE (S :: A :: M) (o' :: o :: os) δ (.int i) (o' :: o :: os) σ H Q) := ⟨fun pins s σ H Q I ⟨A, S, o, o', w⟩ => (hk A S o o').run pins s σ H Q I w⟩
  have hv2 : PE X c (fun σ H Q => ∃ A S o o', tE (S :: A :: M) (o' :: o :: os) δ d (o' :: o :: os) σ H Q) := ⟨fun pins s σ H Q I ⟨A, S, o, o', w⟩ => (hv A S o o').run pins s σ H Q I w⟩
  refine pe_imp (pe_dispStar hr2 hk2 hv2 hsh) fun σ H Q ⟨s, en, q⟩ => fun A hA => ?_
  have eA := Ext.new (o := HO.dK []) hA
  have sA : Sok (A :: M) (.opq (.dK []) :: os) (upd H A (.dK [])) := s.more hA eA upd_same
  have nA : EnvR (A :: M) (upd H A (.dK [])) σ δ := (en.more hA).keep eA.keep
  refine ⟨A, .opq (.dK []), sA, nA, fun v H1 k1 s1 r1 => ?_⟩
  have hA1 : H1 A = some (.dK []) := s1.at_ 0 A _ rfl rfl
  cases r1 with
  | @dic q0 kvs _ _ h1 hm hkk hx =>
    have hne : q0 ≠ A := fun z => hm (by rw [z]; exact List.mem_cons_self)
    have hlen : kvs.length = ks.length := by rw [← hkk, List.length_map]
    refine ⟨q0, kvs, rfl, h1, hne, hA1, by omega, fun S hS => ?_⟩
    have kS1 : Keep (A :: M) H1 (upd H1 A (.dK kvs)) := Keep.set List.mem_cons_self
    have s2 := s1.put (i := 0) (a := A) (o := .opq (.dK kvs)) rfl kS1 (fun b hb _ => upd_ne hb) upd_same
    have eS := Ext.new (o := HO.dK []) hS
    have s3 : Sok (S :: A :: M) (.opq (.dK []) :: .opq (.dK kvs) :: os) (upd (upd H1 A (.dK kvs)) S (.dK [])) := s2.more hS eS upd_same
    have n3 : EnvR (S :: A :: M) (upd (upd H1 A (.dK kvs)) S (.dK [])) σ δ := (((nA.keep k1).keep kS1).more hS).keep eS.keep
    refine ⟨A, S, .opq (.dK kvs), .opq (.dK []), s3, n3, fun y H2 k2 s4 r2 => ⟨A, S, .opq (.dK kvs), .opq (.dK []), s4, n3.keep k2, fun z H3 k3 s5 r3 => ?_⟩⟩
    have hS5 : H3 S = some (.dK []) := s5.at_ 0 S _ rfl rfl
    have hA5 : H3 A = some (.dK kvs) := s5.at_ 1 A _ rfl rfl
    have q1 : Keep (S :: A :: M) H3 (upd H3 S (.dK [((Sum.inl i : Key), z)])) := Keep.set List.mem_cons_self
    have q2 : Keep (S :: A :: M) (upd H3 S (.dK [((Sum.inl i : Key), z)])) (upd (upd H3 S (.dK [((Sum.inl i : Key), z)])) A (.dK (kvs ++ [((Sum.inl i : Key), z)]))) := Keep.set (List.mem_cons_of_mem _ List.mem_cons_self)
    have s6 := s5.put (i := 0) (a := S) (o := .opq (.dK [((Sum.inl i : Key), z)])) rfl q1 (fun b hb _ => upd_ne hb) upd_same
    have s7 := s6.put (i := 1) (a := A) (o := .opq (.dK (kvs ++ [((Sum.inl i : Key), z)]))) rfl q2 (fun b hb _ => upd_ne hb) upd_same
    have k13 : Keep (A :: M) H1 (upd (upd H3 S (.dK [((Sum.inl i : Key), z)])) A (.dK (kvs ++ [((Sum.inl i : Key), z)]))) := kS1.trans (Keep.fill hS (((k2.trans k3).trans q1).trans q2))
    have hAM : A ∉ M := not_mem_dom s.dom hA
    refine ⟨.inl i, r2.key, hA5, hS5, ?_, ?_⟩
    · rw [hkk, ← hasK_iff, hn]
      exact Bool.false_ne_true
    · refine q _ _ (Keep.fill hA (k1.trans k13)) s7.less.less (.dic upd_same hAM (by rw [List.map_append, hkk] <;> rfl) ?_)
      rw [List.map_append]
      exact RA.append ((hx.keep k13).sub fun b _ n z => n (List.mem_cons_of_mem _ z)) (.cons ((r3.keep (q1.trans q2)).less.less) .nil)
end
end PW
namespace PW
open PySem PySem.Spec PyProof.Rows L2
/-- the built-ins' names stand free -/
structure BI (mg : Str → Option Value) : Prop where
  isinstance : mg "isinstance" = none
  int : mg "int" = none
  bool : mg "bool" = none
  str : mg "str" = none
  tuple : mg "tuple" = none
  list : mg "list" = none
  set : mg "set" = none
  dict : mg "dict" = none
  len : mg "len" = none
  range : mg "range" = none
  enumerate : mg "enumerate" = none
  zip : mg "zip" = none
  all : mg "all" = none
  max : mg "max" = none
  min : mg "min" = none
  sorted : mg "sorted" = none
  repr : mg "repr" = none
/-- the module's defs -/
structure TopD (K : PySem.W.Frag) (mg : Str → Option Value) : Prop where
  all : ∀ p ∈ tbl, HasD K mg p.1 (top p.2)
theorem TopD.at {K : PySem.W.Frag} {mg : Str → Option Value} (T : TopD K mg) (i : Nat) {p : Str × Nat} (h : tbl[i]? = some p := by rfl) : HasD K mg p.1 (top p.2) := T.all p (List.mem_of_getElem? h)
structure Env1 (K : PySem.W.Frag) (mg : Str → Option Value) : Prop where
  T : TopD K mg
  B : BI mg
  dr : ∃ a, mg "DROPS" = some (.ref a) ∧ ∀ H, SqT K H a [.str "eldest", .str "newest", .str "slowest"]
end PW
namespace PW
open PySem PySem.Spec PyProof.Rows L2
/-! ### the data of the program -/
structure Snd where
  a : Int
  b : Int
  n : Int
  c : Int
  m : Int
def Snd.d (s : Snd) : D := .tup [.int s.a, .int s.b, .int s.n, .int s.c, .int s.m, .non]
structure Snd.Ok (s : Snd) : Prop where
  a1 : 1 ≤ s.a
  a2 : s.a ≤ 10
  b1 : s.a ≤ s.b
  b2 : s.b ≤ 10
  n1 : 1 ≤ s.n
  n2 : s.n ≤ 10
  c1 : 1 ≤ s.c
  c2 : s.c ≤ 10
  m1 : 1 ≤ s.m
structure Roa where
  p : Int
  q : Int
def Roa.d (r : Roa) : D := .tup [.int r.p, .int r.q]
structure Roa.Ok (r : Roa) : Prop where
  p1 : 0 ≤ r.p
  p2 : r.p ≤ 10
  q1 : 0 ≤ r.q
  q2 : r.q ≤ 10
structure Ear where
  w : Int
  m : Int
  r : Int
  rule : Str
def Ear.d (e : Ear) : D := .tup [.int e.w, .int e.m, .int e.r, .str e.rule]
structure Ear.Ok (e : Ear) : Prop where
  w1 : 0 ≤ e.w
  m1 : 0 ≤ e.m
  r1 : 1 ≤ e.r
  k : e.rule = "eldest" ∨ e.rule = "newest" ∨ e.rule = "slowest"
/-- one that was heard: text, part, moment -/
structure Hrd where
  t : Int
  p : Int
  m : Int
deriving DecidableEq
def Hrd.l (h : Hrd) : List Int := [h.t, h.p, h.m]
def Hrd.d (h : Hrd) : D := .tup [.int h.t, .int h.p, .int h.m]
def hrdD (hs : List Hrd) : D := .tup (hs.map Hrd.d)
structure HOk (s : Snd) (hs : List Hrd) : Prop where
  ne : hs ≠ []
  len : hs.length ≤ 60
  t0 : ∀ h ∈ hs, 0 ≤ h.t
  t1 : ∀ h ∈ hs, h.t ≤ 100
  p0 : ∀ h ∈ hs, 0 ≤ h.p
  p1 : ∀ h ∈ hs, h.p < s.n
  so : hs.Pairwise fun x y => HT.lexLt x.l y.l = true
  cp : ∀ h ∈ hs, ((hs.countP fun z => decide (z.t = h.t ∧ z.p = h.p) : Nat) : Int) ≤ s.c
section
variable {P : Program} {w : World} {K : PySem.W.Frag} {mg : Str → Option Value} {base : Heap}
theorem kit_int_int {K : PySem.W.Frag} : PySem.W.kitOne K (.type "int") (.type "int") = some true := by rfl
theorem kit_int_bool {K : PySem.W.Frag} : PySem.W.kitOne K (.type "int") (.type "bool") = some false := by first | rfl | kernel_rfl
theorem kit_str_str {K : PySem.W.Frag} : PySem.W.kitOne K (.type "str") (.type "str") = some true := by first | rfl | kernel_rfl
theorem kit_tup_tup {K : PySem.W.Frag} : PySem.W.kitOne K (.type "tuple") (.type "tuple") = some true := by first | rfl | kernel_rfl
theorem boot_bool : bootBuiltins "bool" = some (.type "bool") := by decide +kernel
theorem boot_str : bootBuiltins "str" = some (.type "str") := by decide +kernel
def g_is_integer : List D → D → Prop := fun ds d => ∃ i, ds = [.int i] ∧ d = .bl true
theorem ok_is_integer (E : Env1 K mg) : Cl P w K mg base 1 "is_integer" (pureC g_is_integer) := by
  refine cl_ok (N := ["thing"]) (ps := ["thing"]) (E.T.at 0) ⟨rfl, rfl, rfl, by decide +kernel, rfl, by decide +kernel, by decide +kernel⟩ (fun _ _ _ _ _ _ us hl => match us, hl with | [_], _ => rfl) ?_ ?_
  · rintro M ds os d os' ⟨_, i, rfl, _⟩
    rfl
  · rintro f cdv A outer s H E0 hr M ds os d os' ⟨rfl, i, rfl, rfl⟩
    exact stm_ret (ev_and (ev_bi (b_isi (fun _ _ => ty_int) kit_int_int) E.B.isinstance boot_isinstance (arg_cons (ev_var 0 rfl) (arg_cons (ev_ty E.B.int boot_int) arg_nil)))
      fun _ => ev_one (ev_not (ev_bi (b_isi (fun _ _ => ty_int) kit_int_bool) E.B.isinstance boot_isinstance (arg_cons (ev_var 0 rfl) (arg_cons (ev_ty E.B.bool boot_bool) arg_nil))))) ⟨rfl, rfl⟩
def g_is_from : List D → D → Prop := fun ds d => ∃ i j, ds = [.int i, .int j] ∧ d = .bl (decide (j ≤ i))
theorem ok_is_from (E : Env1 K mg) : Cl P w K mg base 2 "is_from" (pureC g_is_from) := by
  refine cl_ok (N := ["thing", "least"]) (ps := ["thing", "least"]) (E.T.at 1) ⟨rfl, rfl, rfl, by decide +kernel, rfl, by decide +kernel, by decide +kernel⟩ (fun _ _ _ _ _ _ us hl => match us, hl with | [_, _], _ => rfl) ?_ ?_
  · rintro M ds os d os' ⟨_, i, j, rfl, _⟩
    rfl
  · rintro f cdv A outer s H E0 hr M ds os d os' ⟨rfl, i, j, rfl, rfl⟩
    exact stm_ret (ev_and (ev_callP (ok_is_integer E) hr (arg_cons (ev_var 0 rfl) arg_nil) ⟨i, rfl, rfl⟩) fun _ => ev_one (ev_cmp c_ge (ev_var 0 rfl) (ev_var 1 rfl))) ⟨rfl, rfl⟩
def g_is_number : List D → D → Prop := fun ds d => ∃ i : Int, ds = [.int i] ∧ d = .bl (decide (0 ≤ i))
theorem ok_is_number (E : Env1 K mg) : Cl P w K mg base 3 "is_number" (pureC g_is_number) := by
  have nd : (["thing"] : List Str).Nodup := by decide +kernel
  refine cl_ok (N := ["thing"]) (ps := ["thing"]) (E.T.at 2) ⟨rfl, rfl, rfl, nd, rfl, by decide +kernel, by decide +kernel⟩ (fun _ _ _ _ _ _ us hl => match us, hl with | [_], _ => rfl) ?_ ?_
  · rintro M ds os d os1 ⟨_, i, rfl, _⟩
    rfl
  · rintro f cdv A outer s H E0 hr M ds os d os1 ⟨rfl, i, rfl, rfl⟩
    exact
    stm_ret (ev_callP (ok_is_from E) hr (arg_cons (ev_var 0 rfl) (arg_cons ev_int arg_nil)) ⟨_, _, rfl, rfl⟩) ⟨rfl, rfl⟩
def g_is_amongK (K : PySem.W.Frag) : List D → D → Prop := fun ds d => ∃ (x : Str) (a : Addr), ds = [.str x, .adr a] ∧ (∀ H, SqT K H a [.str "eldest", .str "newest", .str "slowest"]) ∧ (x = "eldest" ∨ x = "newest" ∨ x = "slowest") ∧ d = .bl true
theorem ok_is_among (E : Env1 K mg) : Cl P w K mg base 1 "is_among" (pureC (g_is_amongK K)) := by
  have nd : (["thing", "some"] : List Str).Nodup := by decide +kernel
  refine cl_ok (N := ["thing", "some"]) (ps := ["thing", "some"]) (E.T.at 3) ⟨rfl, rfl, rfl, nd, rfl, by decide +kernel, by decide +kernel⟩ (fun _ _ _ _ _ _ us hl => match us, hl with | [_, _], _ => rfl) ?_ ?_
  · rintro M ds os d os1 ⟨_, x, a, rfl, _⟩
    rfl
  · rintro f cdv A outer s H E0 hr M ds os d os1 ⟨rfl, x, a, rfl, hT, hx, rfl⟩
    refine
    stm_ret (ev_and (ev_bi (b_isi (fun _ _ => ty_str) kit_str_str) E.B.isinstance boot_isinstance (arg_cons (ev_var 0 rfl) (arg_cons (ev_ty E.B.str boot_str) arg_nil))) fun h1 => (ev_one (ev_cmp (c_inA rfl hT rfl) (ev_var 0 rfl) (ev_var 1 rfl) (by with_unfolding_all rfl)))) ⟨?_, rfl⟩
    have : inV (toV (.str x)) [.str "eldest", .str "newest", .str "slowest"] = true := by
      rcases hx with rfl | rfl | rfl <;> decide +kernel
    rw [this] <;> rfl
def g_is_tuple_of : List D → D → Prop := fun ds d => ∃ (xs : List D) (n : Int), ds = [.tup xs, .int n] ∧ d = .bl (decide ((xs.length : Int) = n))
theorem ok_is_tuple_of (E : Env1 K mg) : Cl P w K mg base 1 "is_tuple_of" (pureC g_is_tuple_of) := by
  have nd : (["thing", "many"] : List Str).Nodup := by decide +kernel
  refine cl_ok (N := ["thing", "many"]) (ps := ["thing", "many"]) (E.T.at 4) ⟨rfl, rfl, rfl, nd, rfl, by decide +kernel, by decide +kernel⟩ (fun _ _ _ _ _ _ us hl => match us, hl with | [_, _], _ => rfl) ?_ ?_
  · rintro M ds os d os1 ⟨_, xs, n, rfl, _⟩
    rfl
  · rintro f cdv A outer s H E0 hr M ds os d os1 ⟨rfl, xs, n, rfl, rfl⟩
    exact
    stm_ret (ev_and (ev_bi (b_isi (fun _ _ => ty_tup) kit_tup_tup) E.B.isinstance boot_isinstance (arg_cons (ev_var 0 rfl) (arg_cons (ev_ty E.B.tuple boot_tuple) arg_nil))) fun h1 => (ev_one (ev_cmp c_eqI (ev_bi b_lenT E.B.len boot_len (arg_cons (ev_var 0 rfl) arg_nil)) (ev_var 1 rfl)))) ⟨rfl, rfl⟩
def g_sender_fault : List D → D → Prop := fun ds d => ∃ s : Snd, ds = [s.d] ∧ s.Ok ∧ d = .non
theorem ok_sender_fault (E : Env1 K mg) : Cl P w K mg base 3 "sender_fault" (pureC g_sender_fault) := by
  have nd : (["thing", "k", "least"] : List Str).Nodup := by decide +kernel
  refine cl_ok (N := ["thing", "k", "least"]) (ps := ["thing"]) (E.T.at 5) ⟨rfl, rfl, rfl, nd, rfl, by decide +kernel, by decide +kernel⟩ (fun _ _ _ _ _ _ us hl => match us, hl with | [_], _ => rfl) ?_ ?_
  · rintro M ds os d os1 ⟨_, s, rfl, _⟩
    rfl
  · rintro f cdv A outer sh H E0 hr M ds os d os1 ⟨rfl, s, rfl, hs, rfl⟩
    refine
    stm_ifR (tst_not (tst_val (ev_callP (ok_is_from E) hr (arg_cons (ev_ixT (ev_var 0 rfl) ev_int rfl) (arg_cons ev_int arg_nil)) ⟨_, _, rfl, rfl⟩))) (fun h1 => by
      have := hs.a1
      simp at h1
      omega) fun h2 =>
    stm_for (wk_tup (ev_tup (arg_cons (ev_tup (arg_cons ev_int (arg_cons (ev_ixT (ev_var 0 rfl) ev_int rfl) arg_nil))) (arg_cons (ev_tup (arg_cons ev_int (arg_cons ev_int arg_nil))) (arg_cons (ev_tup (arg_cons ev_int (arg_cons ev_int arg_nil))) (arg_cons (ev_tup (arg_cons ev_int (arg_cons ev_int arg_nil))) arg_nil)))))) (tgt_tup rfl (tgts_cons (tgt_name 1 nd) (tgts_cons (tgt_name 2 nd) tgts_nil)) (fCons_len (fCons_len fNil_len)))
      (fun _ δ os2 => os2 = os1 ∧ ∃ x y, δ = [some s.d, x, y]) ⟨rfl, _, _, rfl⟩ ?_ (fun δ os2 ⟨hJ1, x, y, hJ2⟩ => by
    subst hJ1 hJ2
    exact stm_ret (ev_ifT (tst_w (tsw_orT (tst_cmp c_isN (ev_ixT (ev_var 0 rfl) ev_int rfl) ev_non))) ev_non) ⟨rfl, rfl⟩) pn rfl
    rintro i d δ os2 hd ⟨rfl, x, y, rfl⟩
    have hm := List.mem_of_getElem? hd
    simp only [List.mem_cons, List.not_mem_nil, or_false] at hm
    have q1 := hs.a1
    have q2 := hs.b1
    have q3 := hs.n1
    have q4 := hs.c1
    have q5 := hs.m1
    rcases hm with rfl | rfl | rfl | rfl
    · refine ⟨_, rfl, stm_ifR (tst_not (tst_val (ev_callP (ok_is_from E) hr (arg_cons (ev_ixT (ev_var 0 rfl) (ev_var 1 rfl) rfl) (arg_cons (ev_var 2 rfl) arg_nil)) ⟨_, _, rfl, rfl⟩))) (fun h1 => ?_) fun h4 => stm_nil ⟨rfl, _, _, rfl⟩⟩
      simp at h1
      omega
    · refine ⟨_, rfl, stm_ifR (tst_not (tst_val (ev_callP (ok_is_from E) hr (arg_cons (ev_ixT (ev_var 0 rfl) (ev_var 1 rfl) rfl) (arg_cons (ev_var 2 rfl) arg_nil)) ⟨_, _, rfl, rfl⟩))) (fun h1 => ?_) fun h4 => stm_nil ⟨rfl, _, _, rfl⟩⟩
      simp at h1
      omega
    · refine ⟨_, rfl, stm_ifR (tst_not (tst_val (ev_callP (ok_is_from E) hr (arg_cons (ev_ixT (ev_var 0 rfl) (ev_var 1 rfl) rfl) (arg_cons (ev_var 2 rfl) arg_nil)) ⟨_, _, rfl, rfl⟩))) (fun h1 => ?_) fun h4 => stm_nil ⟨rfl, _, _, rfl⟩⟩
      simp at h1
      omega
    · refine ⟨_, rfl, stm_ifR (tst_not (tst_val (ev_callP (ok_is_from E) hr (arg_cons (ev_ixT (ev_var 0 rfl) (ev_var 1 rfl) rfl) (arg_cons (ev_var 2 rfl) arg_nil)) ⟨_, _, rfl, rfl⟩))) (fun h1 => ?_) fun h4 => stm_nil ⟨rfl, _, _, rfl⟩⟩
      simp at h1
      omega
end
end PW
namespace PW
open PySem PySem.Spec PyProof.Rows L2
section
variable {P : Program} {w : World} {K : PySem.W.Frag} {mg : Str → Option Value} {base : Heap}
def g_road_fault : List D → D → Prop := fun ds d => ∃ r : Roa, ds = [r.d] ∧ r.Ok ∧ d = .non
theorem ok_road_fault (E : Env1 K mg) : Cl P w K mg base 4 "road_fault" (pureC g_road_fault) := by
  have nd : (["thing", "wrong", "k"] : List Str).Nodup := by decide +kernel
  refine cl_ok (N := ["thing", "wrong", "k"]) (ps := ["thing"]) (E.T.at 6) ⟨rfl, rfl, rfl, nd, rfl, by decide +kernel, by decide +kernel⟩ (fun _ _ _ _ _ _ us hl => match us, hl with | [_], _ => rfl) ?_ ?_
  · rintro M ds os d os1 ⟨_, r, rfl, _⟩
    rfl
  · rintro f cdv A outer s H E0 hr M ds os d os1 ⟨rfl, r, rfl, hr1, rfl⟩
    have q1 := hr1.p1
    have q2 := hr1.q1
    exact
    stm_setLc 1 (own := [("k", 2)]) (List.range 2) (fun k : Nat => .int (0 + (k : Int))) (fun _ => false) (fun k : Nat => .int (0 + (k : Int))) (wk_rng1 E.B.range (arg_cons ev_int arg_nil) (by omega)) (blkOk_by (by kernel_rfl)) (fun _ _ _ _ _ _ => (tgt_name 2 nd)) (fun x hx => ⟨_, rfl, fun L acc => ⟨fun s H C cl fp => by
      have hx2 : x = 0 ∨ x = 1 := by
        simp at hx
        omega
      rcases hx2 with rfl | rfl
      · exact tsts_one (tst_eq (tst_not (tst_val (ev_callP (ok_is_number E) hr (arg_cons (ev_ixT (ev_var 0 rfl) (ev_var 2 rfl) rfl) arg_nil) ⟨_, rfl, rfl⟩))) (by simp; omega))
      · exact tsts_one (tst_eq (tst_not (tst_val (ev_callP (ok_is_number E) hr (arg_cons (ev_ixT (ev_var 0 rfl) (ev_var 2 rfl) rfl) arg_nil) ⟨_, rfl, rfl⟩))) (by simp; omega)), fun hp => by cases hp⟩⟩) (by decide) rfl nd <|
    stm_ret (ev_ifF (tst_eq (tst_cmp c_gt (ev_bi b_lenL E.B.len boot_len (arg_cons (ev_var 1 rfl) arg_nil)) ev_int) (by decide)) ev_non) ⟨rfl, rfl⟩
def g_hearer_fault : List D → D → Prop := fun ds d => ∃ e : Ear, ds = [e.d] ∧ e.Ok ∧ d = .non
theorem ok_hearer_fault (E : Env1 K mg) : Cl P w K mg base 3 "hearer_fault" (pureC g_hearer_fault) := by
  have nd : (["thing", "k", "least"] : List Str).Nodup := by decide +kernel
  refine cl_ok (N := ["thing", "k", "least"]) (ps := ["thing"]) (E.T.at 7) ⟨rfl, rfl, rfl, nd, rfl, by decide +kernel, by decide +kernel⟩ (fun _ _ _ _ _ _ us hl => match us, hl with | [_], _ => rfl) ?_ ?_
  · rintro M ds os d os1 ⟨_, e, rfl, _⟩
    rfl
  · rintro f cdv A outer s H E0 hr M ds os d os1 ⟨rfl, e, rfl, he, rfl⟩
    obtain ⟨q, hq1, hq2⟩ := E.dr
    refine
    stm_for (wk_tup (ev_tup (arg_cons (ev_tup (arg_cons ev_int (arg_cons ev_int arg_nil))) (arg_cons (ev_tup (arg_cons ev_int (arg_cons ev_int arg_nil))) (arg_cons (ev_tup (arg_cons ev_int (arg_cons ev_int arg_nil))) arg_nil))))) (tgt_tup rfl (tgts_cons (tgt_name 1 nd) (tgts_cons (tgt_name 2 nd) tgts_nil)) (fCons_len (fCons_len fNil_len)))
      (fun _ δ os2 => os2 = os1 ∧ ∃ x y, δ = [some e.d, x, y]) ⟨rfl, _, _, rfl⟩ ?_ (fun δ os2 ⟨hJ1, x, y, hJ2⟩ => by
    subst hJ1 hJ2
    exact stm_ret (ev_ifT (tst_val (ev_callP (ok_is_among E) hr (arg_cons (ev_ixT (ev_var 0 rfl) ev_int rfl) (arg_cons (ev_glo hq1) arg_nil)) ⟨_, _, rfl, hq2, he.k, rfl⟩)) ev_non) ⟨rfl, rfl⟩) pn rfl
    rintro i d δ os2 hd ⟨rfl, x, y, rfl⟩
    have hm := List.mem_of_getElem? hd
    simp only [List.mem_cons, List.not_mem_nil, or_false] at hm
    have q1 := he.w1
    have q2 := he.m1
    have q3 := he.r1
    rcases hm with rfl | rfl | rfl
    · refine ⟨_, rfl, stm_ifR (tst_not (tst_val (ev_callP (ok_is_from E) hr (arg_cons (ev_ixT (ev_var 0 rfl) (ev_var 1 rfl) rfl) (arg_cons (ev_var 2 rfl) arg_nil)) ⟨_, _, rfl, rfl⟩))) (fun h1 => ?_) fun h4 => stm_nil ⟨rfl, _, _, rfl⟩⟩
      simp at h1
      omega
    · refine ⟨_, rfl, stm_ifR (tst_not (tst_val (ev_callP (ok_is_from E) hr (arg_cons (ev_ixT (ev_var 0 rfl) (ev_var 1 rfl) rfl) (arg_cons (ev_var 2 rfl) arg_nil)) ⟨_, _, rfl, rfl⟩))) (fun h1 => ?_) fun h4 => stm_nil ⟨rfl, _, _, rfl⟩⟩
      simp at h1
      omega
    · refine ⟨_, rfl, stm_ifR (tst_not (tst_val (ev_callP (ok_is_from E) hr (arg_cons (ev_ixT (ev_var 0 rfl) (ev_var 1 rfl) rfl) (arg_cons (ev_var 2 rfl) arg_nil)) ⟨_, _, rfl, rfl⟩))) (fun h1 => ?_) fun h4 => stm_nil ⟨rfl, _, _, rfl⟩⟩
      simp at h1
      omega
def g_is_sender : List D → D → Prop := fun ds d => ∃ s : Snd, ds = [s.d] ∧ s.Ok ∧ d = .bl true
theorem ok_is_sender (E : Env1 K mg) : Cl P w K mg base 4 "is_sender" (pureC g_is_sender) := by
  have nd : (["thing"] : List Str).Nodup := by decide +kernel
  refine cl_ok (N := ["thing"]) (ps := ["thing"]) (E.T.at 8) ⟨rfl, rfl, rfl, nd, rfl, by decide +kernel, by decide +kernel⟩ (fun _ _ _ _ _ _ us hl => match us, hl with | [_], _ => rfl) ?_ ?_
  · rintro M ds os d os1 ⟨_, s, rfl, _⟩
    rfl
  · rintro f cdv A outer s H E0 hr M ds os d os1 ⟨rfl, s, rfl, hs, rfl⟩
    exact
    stm_ret (ev_and (ev_callP (ok_is_tuple_of E) hr (arg_cons (ev_var 0 rfl) (arg_cons ev_int arg_nil)) ⟨_, _, rfl, rfl⟩) fun h1 => (ev_one (ev_cmp c_isN (ev_callP (ok_sender_fault E) hr (arg_cons (ev_var 0 rfl) arg_nil) ⟨s, rfl, hs, rfl⟩) ev_non))) ⟨rfl, rfl⟩
def g_is_road : List D → D → Prop := fun ds d => ∃ s : Roa, ds = [s.d] ∧ s.Ok ∧ d = .bl true
theorem ok_is_road (E : Env1 K mg) : Cl P w K mg base 5 "is_road" (pureC g_is_road) := by
  have nd : (["thing"] : List Str).Nodup := by decide +kernel
  refine cl_ok (N := ["thing"]) (ps := ["thing"]) (E.T.at 9) ⟨rfl, rfl, rfl, nd, rfl, by decide +kernel, by decide +kernel⟩ (fun _ _ _ _ _ _ us hl => match us, hl with | [_], _ => rfl) ?_ ?_
  · rintro M ds os d os1 ⟨_, s, rfl, _⟩
    rfl
  · rintro f cdv A outer s H E0 hr M ds os d os1 ⟨rfl, s, rfl, hs, rfl⟩
    exact
    stm_ret (ev_and (ev_callP (ok_is_tuple_of E) hr (arg_cons (ev_var 0 rfl) (arg_cons ev_int arg_nil)) ⟨_, _, rfl, rfl⟩) fun h1 => (ev_one (ev_cmp c_isN (ev_callP (ok_road_fault E) hr (arg_cons (ev_var 0 rfl) arg_nil) ⟨s, rfl, hs, rfl⟩) ev_non))) ⟨rfl, rfl⟩
def g_want : List D → D → Prop := fun ds d => ∃ x : Str, ds = [.bl true, .str x] ∧ d = .non
theorem ok_want (E : Env1 K mg) : Cl P w K mg base 1 "want" (pureC g_want) := by
  have nd : (["is_fit", "word"] : List Str).Nodup := by decide +kernel
  refine cl_ok (N := ["is_fit", "word"]) (ps := ["is_fit", "word"]) (E.T.at 10) ⟨rfl, rfl, rfl, nd, rfl, by decide +kernel, by decide +kernel⟩ (fun _ _ _ _ _ _ us hl => match us, hl with | [_, _], _ => rfl) ?_ ?_
  · rintro M ds os d os1 ⟨_, x, rfl, _⟩
    rfl
  · rintro f cdv A outer s H E0 hr M ds os d os1 ⟨rfl, x, rfl, rfl⟩
    exact stm_ifF (tst_eq (tst_not (tst_val (ev_var 0 rfl))) rfl) <| stm_nil ⟨rfl, rfl⟩
def g_is_triple : List D → D → Prop := fun ds d => ∃ (s : Snd) (h : Hrd), ds = [s.d, h.d] ∧ 0 ≤ h.t ∧ 0 ≤ h.p ∧ h.p < s.n ∧ d = .bl true
theorem ok_is_triple (E : Env1 K mg) : Cl P w K mg base 4 "is_triple" (pureC g_is_triple) := by
  have nd : (["sender", "thing"] : List Str).Nodup := by decide +kernel
  refine cl_ok (N := ["sender", "thing"]) (ps := ["sender", "thing"]) (E.T.at 11) ⟨rfl, rfl, rfl, nd, rfl, by decide +kernel, by decide +kernel⟩ (fun _ _ _ _ _ _ us hl => match us, hl with | [_, _], _ => rfl) ?_ ?_
  · rintro M ds os d os1 ⟨_, s, h, rfl, _⟩
    rfl
  · rintro f cdv A outer s H E0 hr M ds os d os1 ⟨rfl, s, h, rfl, h0, h1, h2, rfl⟩
    exact
    stm_ifR (tst_w (tsw_or (tst_not (tst_val (ev_callP (ok_is_tuple_of E) hr (arg_cons (ev_var 1 rfl) (arg_cons ev_int arg_nil)) ⟨_, _, rfl, rfl⟩))) fun h4 => (tsw_or (tst_not (tst_val (ev_callP (ok_is_number E) hr (arg_cons (ev_ixT (ev_var 1 rfl) ev_int rfl) arg_nil) ⟨_, rfl, rfl⟩))) fun h3 => (tsw_or1 (tst_not (tst_val (ev_callP (ok_is_number E) hr (arg_cons (ev_ixT (ev_var 1 rfl) ev_int rfl) arg_nil) ⟨_, rfl, rfl⟩))))))) (fun h5 => by
      simp at h5
      omega) fun h2 =>
    stm_ret (ev_and (ev_cmp c_lt (ev_ixT (ev_var 1 rfl) ev_int rfl) (ev_ixT (ev_var 0 rfl) ev_int rfl)) fun h5 => (ev_one (ev_callP (ok_is_integer E) hr (arg_cons (ev_ixT (ev_var 1 rfl) ev_int rfl) arg_nil) ⟨_, rfl, rfl⟩))) ⟨by simp; omega, rfl⟩
theorem okH (hs : List Hrd) : okD 4 (.tup (hs.map Hrd.d)) = true := by
  simp only [okD]
  exact okA_map fun h _ => rfl
theorem all_lt {hs : List Hrd} (h : hs.Pairwise fun x y => HT.lexLt x.l y.l = true) : ((hs.zip (hs.drop 1)).map fun q => HT.lexLt q.1.l q.2.l).all id = true := by
  induction hs with
  | nil => rfl
  | cons x xs ih =>
    cases xs with
    | nil => rfl
    | cons y ys =>
      rw [List.pairwise_cons] at h
      have h1 := h.1 y (by simp)
      have h2 := ih h.2
      simp at h2
      simp [h1]
      exact h2
theorem cnt_eq (hs : List Hrd) (h : Hrd) : (hs.map fun h => D.tup [.int h.t, .int h.p]).countP (fun z => eqD z (.tup [.int h.t, .int h.p])) = hs.countP fun z => decide (z.t = h.t ∧ z.p = h.p) := by
  rw [List.countP_map]
  congr 1
  funext z
  have := eqD_intsT [z.t, z.p] [h.t, h.p]
  show eqD (.tup [.int z.t, .int z.p]) (.tup [.int h.t, .int h.p]) = _
  rw [show D.tup [.int z.t, .int z.p] = .tup ([z.t, z.p].map D.int) from rfl, show D.tup [.int h.t, .int h.p] = .tup ([h.t, h.p].map D.int) from rfl, this]
  simp
def g_is_heard : List D → D → Prop := fun ds d => ∃ (s : Snd) (hs : List Hrd), ds = [s.d, hrdD hs] ∧ HOk s hs ∧ d = .bl true
theorem ok_is_heard (E : Env1 K mg) : Cl P w K mg base 5 "is_heard" (pureC g_is_heard) := by
  have nd : (["sender", "thing", "parts", "one", "part", "two"] : List Str).Nodup := by decide +kernel
  refine cl_ok (N := ["sender", "thing", "parts", "one", "part", "two"]) (ps := ["sender", "thing"]) (E.T.at 12) ⟨rfl, rfl, rfl, nd, rfl, by decide +kernel, by decide +kernel⟩ (fun _ _ _ _ _ _ us hl => match us, hl with | [_, _], _ => rfl) ?_ ?_
  · rintro M ds os d os1 ⟨_, s, hs, rfl, _⟩
    rfl
  · rintro f cdv A outer s H E0 hr M ds os d os1 ⟨rfl, s, hs, rfl, ok, rfl⟩
    have hlen := ok.len
    have hz : (hs.zip (hs.drop 1)).length ≤ 100000 := by
      rw [List.length_zip]
      omega
    have hpos : 0 < hs.length := List.length_pos_iff.mpr ok.ne
    exact
    stm_ifR (tst_w (tsw_or (tst_not (tst_val (ev_bi (b_isi (fun _ _ => ty_tup) kit_tup_tup) E.B.isinstance boot_isinstance (arg_cons (ev_var 1 rfl) (arg_cons (ev_ty E.B.tuple boot_tuple) arg_nil))))) fun h4 => (tsw_or (tst_cmp c_eqI (ev_bi b_lenT E.B.len boot_len (arg_cons (ev_var 1 rfl) arg_nil)) ev_int) fun h3 => (tsw_or1 (tst_not (tst_val (ev_bi (b_all (bs := hs.map fun _ => true) rfl) E.B.all boot_all (arg_cons (ev_lc0 (own := [("one", 3)]) hs Hrd.d (fun _ => .bl true) (wk_tup (ev_var 1 rfl)) (blkOk_by (by kernel_rfl)) (fun _ _ _ _ _ _ => (tgt_name 3 nd)) (fun x hx => ⟨_, rfl, fun L acc s2 H C cl fp => (ev_callP (ok_is_triple E) hr (arg_cons (ev_var 0 rfl) (arg_cons (ev_var 3 rfl) arg_nil)) ⟨s, x, rfl, ok.t0 x hx, ok.p0 x hx, ok.p1 x hx, rfl⟩)⟩) (by omega) rfl nd (by simp)) arg_nil)))))))) (fun h1 => by
      simp at h1
      exact absurd h1 ok.ne) fun h2 =>
    stm_ifR (tst_not (tst_val (ev_bi (b_all (bs := (hs.zip (hs.drop 1)).map fun q => HT.lexLt q.1.l q.2.l) rfl) E.B.all boot_all (arg_cons (ev_lc0 (own := [("one", 3), ("two", 5)]) (hs.zip (hs.drop 1)) (fun q => D.tup [q.1.d, q.2.d]) (fun q => .bl (HT.lexLt q.1.l q.2.l)) (wk_zipT E.B.zip (arg_cons (ev_var 1 rfl) (arg_cons (ev_cutT (ev_var 1 rfl) (prt_yes ev_int) prt_no) arg_nil)) (by
        rw [cutD_map, cutD_1 hs (by omega), zip_map_enc])) (blkOk_by (by kernel_rfl)) (fun _ _ _ _ _ _ => (tgt_tup rfl (tgts_cons (tgt_name 3 nd) (tgts_cons (tgt_name 5 nd) tgts_nil)) (fCons_len (fCons_len fNil_len)))) (fun x hx => ⟨_, rfl, fun L acc s H C cl fp => (ev_cmp (c_ltT hr (ns := x.1.l) (ms := x.2.l) rfl rfl) (ev_var 3 rfl) (ev_var 5 rfl))⟩) hz rfl nd (by simp)) arg_nil)))) (fun h5 => by
      rw [all_lt ok.so] at h5
      cases h5) fun h6 =>
    stm_set 2 (ev_lc0 (own := [("one", 3)]) hs Hrd.d (fun h => .tup [.int h.t, .int h.p]) (wk_tup (ev_var 1 rfl)) (blkOk_by (by kernel_rfl)) (fun _ _ _ _ _ _ => (tgt_name 3 nd)) (fun x hx => ⟨_, rfl, fun L acc s H C cl fp => ev_eq (ev_cutT (ev_var 3 rfl) prt_no (prt_yes ev_int)) rfl⟩) (by omega) rfl nd) nd <|
    stm_ret (ev_bi (b_all (bs := hs.map fun h => decide (((hs.countP fun z => decide (z.t = h.t ∧ z.p = h.p) : Nat) : Int) ≤ s.c)) rfl) E.B.all boot_all (arg_cons (ev_lc0 (own := [("part", 4)]) hs (fun h => .tup [.int h.t, .int h.p]) (fun h => .bl (decide (((hs.countP fun z => decide (z.t = h.t ∧ z.p = h.p) : Nat) : Int) ≤ s.c))) (wk_lst (ev_var 2 rfl)) (blkOk_by (by kernel_rfl)) (fun _ _ _ _ _ _ => (tgt_name 4 nd)) (fun x hx => ⟨_, rfl, fun L acc s2 H C cl fp => (ev_cmp c_le (ev_eq (ev_count (n := 4) hr (ev_var 2 rfl) (arg_cons (ev_var 4 rfl) arg_nil) (by
        simp only [okD]
        exact okA_map fun h _ => rfl) rfl) (by rw [cnt_eq])) (ev_ixT (ev_var 0 rfl) ev_int rfl))⟩) (by omega) rfl nd (by simp)) arg_nil)) ⟨by
      have : (hs.map fun h => decide (((hs.countP fun z => decide (z.t = h.t ∧ z.p = h.p) : Nat) : Int) ≤ s.c)).all id = true := by
        rw [List.all_map, List.all_eq_true]
        intro h hh
        exact decide_eq_true (ok.cp h hh)
      rw [this], rfl⟩
end
end PW
namespace PW
open PySem PySem.Spec PyProof.Rows L2
/-! ### what the spans are -/
def lowF (s : Snd) (r : Roa) (h : Hrd) (t : Int) : Int := h.m - r.p - r.q + (t - h.t) * (if 0 ≤ t - h.t then s.a else s.b)
def highF (s : Snd) (r : Roa) (h : Hrd) (t : Int) : Int := h.m - r.p + (t - h.t) * (if 0 ≤ t - h.t then s.b else s.a)
def shutF (s : Snd) (r : Roa) (x y : Hrd) : Bool := decide (y.m - r.p < lowF s r x y.t) || decide (highF s r x y.t < y.m - r.p - r.q)
def lowT (s : Snd) (r : Roa) (hs : List Hrd) (t : Int) : Int := maxL (hs.map fun h => lowF s r h t)
def highT (s : Snd) (r : Roa) (hs : List Hrd) (t : Int) : Int := minL (hs.map fun h => highF s r h t)
def firstT (hs : List Hrd) : Int := (hs.headD ⟨0, 0, 0⟩).t
def lastT (hs : List Hrd) : Int := (hs.getLastD ⟨0, 0, 0⟩).t
def txs (hs : List Hrd) : List Int := (List.range (lastT hs + 1 - firstT hs).toNat).map fun i : Nat => firstT hs + (i : Int)
structure SpOk (s : Snd) (r : Roa) (hs : List Hrd) : Prop where
  so : s.Ok
  ro : r.Ok
  ho : HOk s hs
  sh : ∀ x ∈ hs, ∀ y ∈ hs, shutF s r x y = false
theorem txs_len {hs : List Hrd} {s : Snd} (h : HOk s hs) : (txs hs).length ≤ 200 ∧ 0 ≤ firstT hs ∧ firstT hs ≤ 100 ∧ 0 ≤ lastT hs ∧ lastT hs ≤ 100 := by
  have h1 : (hs.headD ⟨0, 0, 0⟩) ∈ hs := by
    cases hs with
    | nil => exact absurd rfl h.ne
    | cons x xs => simp
  have h2 : (hs.getLastD ⟨0, 0, 0⟩) ∈ hs := by
    cases hs with
    | nil => exact absurd rfl h.ne
    | cons x xs =>
      rw [List.getLastD_cons]
      have := List.getLast_mem (l := x :: xs) (by simp)
      rw [List.getLast_eq_getLastD] at this
      exact this
  have a1 := h.t0 _ h1
  have a2 := h.t1 _ h1
  have a3 := h.t0 _ h2
  have a4 := h.t1 _ h2
  unfold txs firstT lastT
  rw [List.length_map, List.length_range]
  refine ⟨by omega, a1, a2, a3, a4⟩
theorem atI_first {hs : List Hrd} {s : Snd} (h : HOk s hs) : atI (hs.map Hrd.d) 0 = some (hs.headD ⟨0, 0, 0⟩).d := by
  refine atI_nat (j := 0) ?_
  cases hs with
  | nil => exact absurd rfl h.ne
  | cons x xs => rfl
theorem atI_lastH {hs : List Hrd} {s : Snd} (h : HOk s hs) : atI (hs.map Hrd.d) (-1) = some (hs.getLastD ⟨0, 0, 0⟩).d := by
  refine atI_lastX ?_
  rw [List.getLast?_map]
  cases hs with
  | nil => exact absurd rfl h.ne
  | cons x xs =>
    rw [List.getLast?_cons, List.getLastD_cons, List.getLastD_eq_getLast?]
    rfl
section
variable {P : Program} {w : World} {K : PySem.W.Frag} {mg : Str → Option Value} {base : Heap}
def g_want_heard : List D → D → Prop := fun ds d => ∃ (s : Snd) (r : Roa) (hs : List Hrd), ds = [s.d, r.d, hrdD hs] ∧ s.Ok ∧ r.Ok ∧ HOk s hs ∧ d = .non
theorem ok_want_heard (E : Env1 K mg) : Cl P w K mg base 6 "want_heard" (pureC g_want_heard) := by
  have nd : (["sender", "road", "heard"] : List Str).Nodup := by decide +kernel
  refine cl_ok (N := ["sender", "road", "heard"]) (ps := ["sender", "road", "heard"]) (E.T.at 13) ⟨rfl, rfl, rfl, nd, rfl, by decide +kernel, by decide +kernel⟩ (fun _ _ _ _ _ _ us hl => match us, hl with | [_, _, _], _ => rfl) ?_ ?_
  · rintro M ds os d os1 ⟨_, s, r, hs, rfl, _⟩
    rfl
  · rintro f cdv A outer sh H E0 hr M ds os d os1 ⟨rfl, s, r, hs, rfl, hs1, hr1, ok, rfl⟩
    exact
    stm_expr (ev_callP (ok_want E) hr (arg_cons (ev_callP (ok_is_sender E) hr (arg_cons (ev_var 0 rfl) arg_nil) ⟨s, rfl, hs1, rfl⟩) (arg_cons ev_str arg_nil)) ⟨_, rfl, rfl⟩) <|
    stm_expr (ev_callP (ok_want E) hr (arg_cons (ev_callP (ok_is_road E) hr (arg_cons (ev_var 1 rfl) arg_nil) ⟨r, rfl, hr1, rfl⟩) (arg_cons ev_str arg_nil)) ⟨_, rfl, rfl⟩) <|
    stm_expr (ev_callP (ok_want E) hr (arg_cons (ev_callP (ok_is_heard E) hr (arg_cons (ev_var 0 rfl) (arg_cons (ev_var 2 rfl) arg_nil)) ⟨s, hs, rfl, ok, rfl⟩) (arg_cons ev_str arg_nil)) ⟨_, rfl, rfl⟩) <|
    stm_nil ⟨rfl, rfl⟩
def g_texts_in : List D → D → Prop := fun ds d => ∃ (s : Snd) (hs : List Hrd), ds = [hrdD hs] ∧ HOk s hs ∧ d = .lst ((txs hs).map D.int)
theorem ok_texts_in (E : Env1 K mg) : Cl P w K mg base 1 "texts_in" (pureC g_texts_in) := by
  have nd : (["heard"] : List Str).Nodup := by decide +kernel
  refine cl_ok (N := ["heard"]) (ps := ["heard"]) (E.T.at 14) ⟨rfl, rfl, rfl, nd, rfl, by decide +kernel, by decide +kernel⟩ (fun _ _ _ _ _ _ us hl => match us, hl with | [_], _ => rfl) ?_ ?_
  · rintro M ds os d os1 ⟨_, s, hs, rfl, _⟩
    rfl
  · rintro f cdv A outer sh H E0 hr M ds os d os1 ⟨rfl, s, hs, rfl, ok, rfl⟩
    obtain ⟨b1, b2, b3, b4, b5⟩ := txs_len ok
    exact
    stm_ret (ev_listRg E.B.list E.B.range (ev_ixT (ev_ixT (ev_var 0 rfl) ev_int (atI_first ok)) ev_int rfl) (ev_add (ev_ixT (ev_ixT (ev_var 0 rfl) (ev_neg ev_int) (atI_lastH ok)) ev_int rfl) ev_int) (by
      show RgOk (firstT hs) (lastT hs + 1)
      exact ⟨by omega, by omega, by omega, by omega, by omega⟩) rfl) ⟨by
      unfold txs
      rw [List.map_map]
      rfl, rfl⟩
theorem cmul_a {s : Snd} (h : s.Ok) (x : Int) : CMul x s.a := .inr ⟨by have := h.a1; omega, by have := h.a2; omega⟩
theorem cmul_b {s : Snd} (h : s.Ok) (x : Int) : CMul x s.b := .inr ⟨by have := h.a1; have := h.b1; omega, by have := h.b2; omega⟩
def g_low_from : List D → D → Prop := fun ds d => ∃ (s : Snd) (r : Roa) (h : Hrd) (t : Int), ds = [s.d, r.d, h.d, .int t] ∧ s.Ok ∧ d = .int (lowF s r h t)
theorem ok_low_from (E : Env1 K mg) : Cl P w K mg base 1 "low_from" (pureC g_low_from) := by
  have nd : (["sender", "road", "one", "text", "far"] : List Str).Nodup := by decide +kernel
  refine cl_ok (N := ["sender", "road", "one", "text", "far"]) (ps := ["sender", "road", "one", "text"]) (E.T.at 15) ⟨rfl, rfl, rfl, nd, rfl, by decide +kernel, by decide +kernel⟩ (fun _ _ _ _ _ _ us hl => match us, hl with | [_, _, _, _], _ => rfl) ?_ ?_
  · rintro M ds os d os1 ⟨_, s, r, h, t, rfl, _⟩
    rfl
  · rintro f cdv A outer sh H E0 hr M ds os d os1 ⟨rfl, s, r, h, t, rfl, hs, rfl⟩
    exact
    stm_set 4 (ev_sub (ev_var 3 rfl) (ev_ixT (ev_var 2 rfl) ev_int rfl)) nd <|
    stm_ret (ev_add (ev_sub (ev_sub (ev_ixT (ev_var 2 rfl) ev_int rfl) (ev_ixT (ev_var 1 rfl) ev_int rfl)) (ev_ixT (ev_var 1 rfl) ev_int rfl)) (ev_mul (ev_var 4 rfl) (ev_if (d := .int (if 0 ≤ t - h.t then s.a else s.b)) (tst_cmp c_ge (ev_var 4 rfl) ev_int) (fun h1 => ev_eq (ev_ixT (ev_var 0 rfl) ev_int rfl) (by rw [if_pos (of_decide_eq_true h1)])) fun h2 => ev_eq (ev_ixT (ev_var 0 rfl) ev_int rfl) (by rw [if_neg (of_decide_eq_false h2)])) (by
      by_cases q : 0 ≤ t - h.t
      · rw [if_pos q]
        exact cmul_a hs _
      · rw [if_neg q]
        exact cmul_b hs _))) ⟨rfl, rfl⟩
def g_high_from : List D → D → Prop := fun ds d => ∃ (s : Snd) (r : Roa) (h : Hrd) (t : Int), ds = [s.d, r.d, h.d, .int t] ∧ s.Ok ∧ d = .int (highF s r h t)
theorem ok_high_from (E : Env1 K mg) : Cl P w K mg base 1 "high_from" (pureC g_high_from) := by
  have nd : (["sender", "road", "one", "text", "far"] : List Str).Nodup := by decide +kernel
  refine cl_ok (N := ["sender", "road", "one", "text", "far"]) (ps := ["sender", "road", "one", "text"]) (E.T.at 16) ⟨rfl, rfl, rfl, nd, rfl, by decide +kernel, by decide +kernel⟩ (fun _ _ _ _ _ _ us hl => match us, hl with | [_, _, _, _], _ => rfl) ?_ ?_
  · rintro M ds os d os1 ⟨_, s, r, h, t, rfl, _⟩
    rfl
  · rintro f cdv A outer sh H E0 hr M ds os d os1 ⟨rfl, s, r, h, t, rfl, hs, rfl⟩
    exact
    stm_set 4 (ev_sub (ev_var 3 rfl) (ev_ixT (ev_var 2 rfl) ev_int rfl)) nd <|
    stm_ret (ev_add (ev_sub (ev_ixT (ev_var 2 rfl) ev_int rfl) (ev_ixT (ev_var 1 rfl) ev_int rfl)) (ev_mul (ev_var 4 rfl) (ev_if (d := .int (if 0 ≤ t - h.t then s.b else s.a)) (tst_cmp c_ge (ev_var 4 rfl) ev_int) (fun h1 => ev_eq (ev_ixT (ev_var 0 rfl) ev_int rfl) (by rw [if_pos (of_decide_eq_true h1)])) fun h2 => ev_eq (ev_ixT (ev_var 0 rfl) ev_int rfl) (by rw [if_neg (of_decide_eq_false h2)])) (by
      by_cases q : 0 ≤ t - h.t
      · rw [if_pos q]
        exact cmul_b hs _
      · rw [if_neg q]
        exact cmul_a hs _))) ⟨rfl, rfl⟩
def g_are_shut : List D → D → Prop := fun ds d => ∃ (s : Snd) (r : Roa) (x y : Hrd), ds = [s.d, r.d, x.d, y.d] ∧ s.Ok ∧ d = .bl (shutF s r x y)
theorem ok_are_shut (E : Env1 K mg) : Cl P w K mg base 2 "are_shut" (pureC g_are_shut) := by
  have nd : (["sender", "road", "one", "two", "last"] : List Str).Nodup := by decide +kernel
  refine cl_ok (N := ["sender", "road", "one", "two", "last"]) (ps := ["sender", "road", "one", "two"]) (E.T.at 17) ⟨rfl, rfl, rfl, nd, rfl, by decide +kernel, by decide +kernel⟩ (fun _ _ _ _ _ _ us hl => match us, hl with | [_, _, _, _], _ => rfl) ?_ ?_
  · rintro M ds os d os1 ⟨_, s, r, x, y, rfl, _⟩
    rfl
  · rintro f cdv A outer sh H E0 hr M ds os d os1 ⟨rfl, s, r, x, y, rfl, hs, rfl⟩
    exact
    stm_set 4 (ev_sub (ev_ixT (ev_var 3 rfl) ev_int rfl) (ev_ixT (ev_var 1 rfl) ev_int rfl)) nd <|
    stm_ret (ev_or (ev_cmp c_lt (ev_var 4 rfl) (ev_callP (ok_low_from E) hr (arg_cons (ev_var 0 rfl) (arg_cons (ev_var 1 rfl) (arg_cons (ev_var 2 rfl) (arg_cons (ev_ixT (ev_var 3 rfl) ev_int rfl) arg_nil)))) ⟨s, r, x, _, rfl, hs, rfl⟩)) fun h1 => (ev_one (ev_cmp c_gt (ev_sub (ev_var 4 rfl) (ev_ixT (ev_var 1 rfl) ev_int rfl)) (ev_callP (ok_high_from E) hr (arg_cons (ev_var 0 rfl) (arg_cons (ev_var 1 rfl) (arg_cons (ev_var 2 rfl) (arg_cons (ev_ixT (ev_var 3 rfl) ev_int rfl) arg_nil)))) ⟨s, r, x, _, rfl, hs, rfl⟩)))) ⟨rfl, rfl⟩
def g_shut_pair : List D → D → Prop := fun ds d => ∃ (s : Snd) (r : Roa) (hs : List Hrd), ds = [s.d, r.d, hrdD hs] ∧ s.Ok ∧ (∀ x ∈ hs, ∀ y ∈ hs, shutF s r x y = false) ∧ d = .non
theorem ok_shut_pair (E : Env1 K mg) : Cl P w K mg base 3 "shut_pair" (pureC g_shut_pair) := by
  have nd : (["sender", "road", "heard", "j", "two", "i", "one"] : List Str).Nodup := by decide +kernel
  refine cl_ok (N := ["sender", "road", "heard", "j", "two", "i", "one"]) (ps := ["sender", "road", "heard"]) (E.T.at 18) ⟨rfl, rfl, rfl, nd, rfl, by decide +kernel, by decide +kernel⟩ (fun _ _ _ _ _ _ us hl => match us, hl with | [_, _, _], _ => rfl) ?_ ?_
  · rintro M ds os d os1 ⟨_, s, r, hs, rfl, _⟩
    rfl
  · rintro f cdv A outer sh H E0 hr M ds os d os1 ⟨rfl, s, r, hs, rfl, hs1, hns, rfl⟩
    refine
    stm_for (wk_enumT (ds' := enL hs Hrd.d) E.B.enumerate (ev_var 2 rfl) (enL_hd hs Hrd.d)) (tgt_tup rfl (tgts_cons (tgt_name 3 nd) (tgts_cons (tgt_name 4 nd) tgts_nil)) (fCons_len (fCons_len fNil_len)))
      (fun _ δ os2 => os2 = os1 ∧ ∃ a b c e, δ = [some s.d, some r.d, some (hrdD hs), a, b, c, e]) ⟨rfl, _, _, _, _, rfl⟩ ?_ (fun δ os2 ⟨q1, a, b, c, e, q2⟩ => by
        subst q1 q2
        exact stm_ret ev_non ⟨rfl, rfl⟩) pn rfl
    rintro i d δ os2 hd ⟨rfl, a, b, c, e, rfl⟩
    obtain ⟨y, hy, rfl⟩ := enL_get hd
    refine ⟨_, rfl, stm_for (wk_enumT (ds' := enL (hs.take i) Hrd.d) E.B.enumerate (ev_cutT (ev_var 2 rfl) prt_no (prt_yes (ev_var 3 rfl))) (by
        rw [cutD_map, cutD_to]
        exact enL_hd _ Hrd.d)) (tgt_tup rfl (tgts_cons (tgt_name 5 nd) (tgts_cons (tgt_name 6 nd) tgts_nil)) (fCons_len (fCons_len fNil_len)))
      (fun _ δ os2' => os2' = os2 ∧ ∃ c e, δ = [some s.d, some r.d, some (hrdD hs), some (.int (i : Nat)), some y.d, c, e]) ⟨rfl, _, _, rfl⟩ ?_ (fun δ os2 ⟨q1, a, b, q2⟩ => by
        subst q1 q2
        exact stm_nil ⟨rfl, _, _, _, _, rfl⟩) pn rfl⟩
    rintro i2 d2 δ2 os3 hd2 ⟨rfl, c2, e2, rfl⟩
    obtain ⟨x, hx, rfl⟩ := enL_get hd2
    have hxm : x ∈ hs := List.mem_of_mem_take (List.mem_of_getElem? hx)
    refine ⟨_, rfl, stm_ifF (tst_eq (tst_val (ev_callP (ok_are_shut E) hr (arg_cons (ev_var 0 rfl) (arg_cons (ev_var 1 rfl) (arg_cons (ev_var 6 rfl) (arg_cons (ev_var 4 rfl) arg_nil)))) ⟨s, r, x, y, rfl, hs1, rfl⟩)) (hns x hxm y (List.mem_of_getElem? hy))) <| stm_nil ⟨rfl, _, _, rfl⟩⟩
def spRow (s : Snd) (r : Roa) (hs : List Hrd) (t : Int) : D := .tup [.int (lowT s r hs t), .int (highT s r hs t)]
def g_spans : List D → D → Prop := fun ds d => ∃ (s : Snd) (r : Roa) (hs : List Hrd), ds = [s.d, r.d, hrdD hs] ∧ SpOk s r hs ∧ d = .tup ((txs hs).map (spRow s r hs))
theorem ok_spans (E : Env1 K mg) : Cl P w K mg base 7 "spans" (pureC g_spans) := by
  have nd : (["sender", "road", "heard", "pair", "found", "text", "low", "one"] : List Str).Nodup := by decide +kernel
  refine cl_ok (N := ["sender", "road", "heard", "pair", "found", "text", "low", "one"]) (ps := ["sender", "road", "heard"]) (E.T.at 19) ⟨rfl, rfl, rfl, nd, rfl, by decide +kernel, by decide +kernel⟩ (fun _ _ _ _ _ _ us hl => match us, hl with | [_, _, _], _ => rfl) ?_ ?_
  · rintro M ds os d os1 ⟨_, s, r, hs, rfl, _⟩
    rfl
  · rintro f cdv A outer sh H E0 hr M ds os d os1 ⟨rfl, s, r, hs, rfl, ok, rfl⟩
    obtain ⟨b1, _⟩ := txs_len ok.ho
    have hl := ok.ho.len
    have nemap : ∀ f : Hrd → Int, hs.map f ≠ [] := fun f => by simpa using ok.ho.ne
    refine
    stm_expr (ev_callP (ok_want_heard E) hr (arg_cons (ev_var 0 rfl) (arg_cons (ev_var 1 rfl) (arg_cons (ev_var 2 rfl) arg_nil))) ⟨s, r, hs, rfl, ok.so, ok.ro, ok.ho, rfl⟩) <|
    stm_set 3 (ev_callP (ok_shut_pair E) hr (arg_cons (ev_var 0 rfl) (arg_cons (ev_var 1 rfl) (arg_cons (ev_var 2 rfl) arg_nil))) ⟨s, r, hs, rfl, ok.so, ok.sh, rfl⟩) nd <|
    stm_ifF (tst_eq (tst_cmp c_notN (ev_var 3 rfl) ev_non) rfl) <|
    stm_new 4 nd fun L =>
    stm_for (wk_lst (ev_callP (ok_texts_in E) hr (arg_cons (ev_var 2 rfl) arg_nil) ⟨s, hs, rfl, ok.ho, rfl⟩)) (tgt_name 5 nd)
      (fun i δ os2 => os2 = .lst (((txs hs).take i).map (spRow s r hs)) :: os1 ∧ ∃ x y z, δ = [some s.d, some r.d, some (hrdD hs), some .non, some (.adr L), x, y, z]) ⟨rfl, _, _, _, rfl⟩ ?_ (fun δ os2 ⟨q1, x, y, z, q2⟩ => by
      subst q1 q2
      rw [List.length_map, List.take_length]
      exact stm_frz 4 rfl <| stm_ret (ev_bt b_tupL E.B.tuple boot_tuple (arg_cons (ev_var 4 rfl) arg_nil)) ⟨rfl, rfl⟩) pn rfl
    rintro i d δ os2 hd ⟨rfl, x, y, z, rfl⟩
    rw [List.getElem?_map] at hd
    obtain ⟨t, ht, rfl⟩ := Option.map_eq_some_iff.mp hd
    have e1 : (txs hs).take (i + 1) = (txs hs).take i ++ [t] := by
      rw [List.take_add_one, ht] <;> rfl
    exact ⟨_, rfl, stm_set 6 (ev_bi (b_max (ns := hs.map fun h => lowF s r h t) rfl (nemap _)) E.B.max boot_max (arg_cons (ev_lc0 (own := [("one", 7)]) hs Hrd.d (fun h => .int (lowF s r h t)) (wk_tup (ev_var 2 rfl)) (blkOk_by (by kernel_rfl)) (fun _ _ _ _ _ _ => (tgt_name 7 nd)) (fun x hx => ⟨_, rfl, fun L acc s2 H C cl fp => (ev_callP (ok_low_from E) hr (arg_cons (ev_var 0 rfl) (arg_cons (ev_var 1 rfl) (arg_cons (ev_var 7 rfl) (arg_cons (ev_var 5 rfl) arg_nil)))) ⟨s, r, x, t, rfl, ok.so, rfl⟩)⟩) (by omega) rfl nd (by simp)) arg_nil)) nd <|
      stm_expr (ev_append 0 (ev_var 4 rfl) (arg_cons (ev_tup (arg_cons (ev_var 6 rfl) (arg_cons (ev_bi (b_min (ns := hs.map fun h => highF s r h t) rfl (nemap _)) E.B.min boot_min (arg_cons (ev_lc0 (own := [("one", 7)]) hs Hrd.d (fun h => .int (highF s r h t)) (wk_tup (ev_var 2 rfl)) (blkOk_by (by kernel_rfl)) (fun _ _ _ _ _ _ => (tgt_name 7 nd)) (fun x hx => ⟨_, rfl, fun L acc s2 H C cl fp => (ev_callP (ok_high_from E) hr (arg_cons (ev_var 0 rfl) (arg_cons (ev_var 1 rfl) (arg_cons (ev_var 7 rfl) (arg_cons (ev_var 5 rfl) arg_nil)))) ⟨s, r, x, t, rfl, ok.so, rfl⟩)⟩) (by omega) rfl nd (by simp)) arg_nil)) arg_nil))) arg_nil) rfl rfl rfl (by
        rw [List.length_map, List.length_take]
        omega)) <|
      stm_nil ⟨by
        rw [e1, List.map_append] <;> rfl, _, _, _, rfl⟩⟩
end
end PW
namespace PW
open PySem PySem.Spec PyProof.Rows L2
/-! ### the paper -/
def lowsL (s : Snd) (r : Roa) (hs : List Hrd) (t : Int) : List Int := hs.map fun h => lowF s r h t
def highsL (s : Snd) (r : Roa) (hs : List Hrd) (t : Int) : List Int := hs.map fun h => highF s r h t
def papRow (s : Snd) (r : Roa) (hs : List Hrd) (t : Int) : D := .tup [.int (lowT s r hs t), .int (highT s r hs t), .int (ixF (lowsL s r hs t) (lowT s r hs t) : Nat), .int (ixF (highsL s r hs t) (highT s r hs t) : Nat)]
def papRows (s : Snd) (r : Roa) (hs : List Hrd) : D := .tup ((txs hs).map (papRow s r hs))
def papD (s : Snd) (r : Roa) (hs : List Hrd) : D := .tup [.str "spans", papRows s r hs]
theorem low_at {s : Snd} {r : Roa} {hs : List Hrd} (t : Int) (h : HOk s hs) : lowT s r hs t ∈ lowsL s r hs t := maxL_mem (by unfold lowsL; simpa using h.ne)
theorem high_at {s : Snd} {r : Roa} {hs : List Hrd} (t : Int) (h : HOk s hs) : highT s r hs t ∈ highsL s r hs t := minL_mem (by unfold highsL; simpa using h.ne)
theorem low_ix {s : Snd} {r : Roa} {hs : List Hrd} (t : Int) (h : HOk s hs) : ∃ x, hs[ixF (lowsL s r hs t) (lowT s r hs t)]? = some x ∧ lowF s r x t = lowT s r hs t := by
  have := (ixF_at (low_at (r := r) t h)).1
  generalize ixF (lowsL s r hs t) (lowT s r hs t) = j at this ⊢
  unfold lowsL at this
  rw [List.getElem?_map] at this
  exact Option.map_eq_some_iff.mp this
theorem high_ix {s : Snd} {r : Roa} {hs : List Hrd} (t : Int) (h : HOk s hs) : ∃ x, hs[ixF (highsL s r hs t) (highT s r hs t)]? = some x ∧ highF s r x t = highT s r hs t := by
  have := (ixF_at (high_at (r := r) t h)).1
  generalize ixF (highsL s r hs t) (highT s r hs t) = j at this ⊢
  unfold highsL at this
  rw [List.getElem?_map] at this
  exact Option.map_eq_some_iff.mp this
structure SpOk2 (s : Snd) (r : Roa) (hs : List Hrd) : Prop extends SpOk s r hs where
  rng : ∀ h ∈ hs, firstT hs ≤ h.t ∧ h.t ≤ lastT hs
  pace : ∀ t, firstT hs ≤ t → t < lastT hs → (s.a ≤ lowT s r hs (t + 1) - lowT s r hs t ∧ lowT s r hs (t + 1) - lowT s r hs t ≤ s.b) ∧ s.a ≤ highT s r hs (t + 1) - highT s r hs t ∧ highT s r hs (t + 1) - highT s r hs t ≤ s.b
  arr : ∀ h ∈ hs, (r.p ≤ h.m - lowT s r hs h.t ∧ h.m - lowT s r hs h.t ≤ r.p + r.q) ∧ r.p ≤ h.m - highT s r hs h.t ∧ h.m - highT s r hs h.t ≤ r.p + r.q
theorem txs_get {hs : List Hrd} {k : Nat} {t : Int} (h : (txs hs)[k]? = some t) : t = firstT hs + k ∧ t ≤ lastT hs := by
  unfold txs at h
  rw [List.getElem?_map] at h
  obtain ⟨j, h1, h2⟩ := Option.map_eq_some_iff.mp h
  obtain ⟨h3, h4⟩ := List.getElem?_eq_some_iff.mp h1
  rw [List.getElem_range] at h4
  rw [List.length_range] at h3
  subst h4
  exact ⟨h2.symm, by omega⟩
theorem txs_at {hs : List Hrd} {t : Int} (h1 : firstT hs ≤ t) (h2 : t ≤ lastT hs) : (txs hs)[(t - firstT hs).toNat]? = some t := by
  unfold txs
  rw [List.getElem?_map, List.getElem?_range (by omega)]
  show some (firstT hs + ((t - firstT hs).toNat : Int)) = some t
  congr 1
  omega
theorem txs_lenE {hs : List Hrd} : (txs hs).length = (lastT hs + 1 - firstT hs).toNat := by
  unfold txs
  rw [List.length_map, List.length_range]
section
variable {P : Program} {w : World} {K : PySem.W.Frag} {mg : Str → Option Value} {base : Heap}
def g_span_paper : List D → D → Prop := fun ds d => ∃ (s : Snd) (r : Roa) (hs : List Hrd), ds = [s.d, r.d, hrdD hs] ∧ SpOk s r hs ∧ d = papD s r hs
theorem ok_span_paper (E : Env1 K mg) : Cl P w K mg base 7 "span_paper" (pureC g_span_paper) := by
  have nd : (["sender", "road", "heard", "pair", "found", "text", "lows", "highs", "one"] : List Str).Nodup := by decide +kernel
  refine cl_ok (N := ["sender", "road", "heard", "pair", "found", "text", "lows", "highs", "one"]) (ps := ["sender", "road", "heard"]) (E.T.at 53) ⟨rfl, rfl, rfl, nd, rfl, by decide +kernel, by decide +kernel⟩ (fun _ _ _ _ _ _ us hl => match us, hl with | [_, _, _], _ => rfl) ?_ ?_
  · rintro M ds os d os1 ⟨_, s, r, hs, rfl, _⟩
    rfl
  · rintro f cdv A outer sh H E0 hr M ds os d os1 ⟨rfl, s, r, hs, rfl, ok, rfl⟩
    obtain ⟨b1, _⟩ := txs_len ok.ho
    have hl := ok.ho.len
    have nemap : ∀ f : Hrd → Int, hs.map f ≠ [] := fun f => by simpa using ok.ho.ne
    refine
    stm_expr (ev_callP (ok_want_heard E) hr (arg_cons (ev_var 0 rfl) (arg_cons (ev_var 1 rfl) (arg_cons (ev_var 2 rfl) arg_nil))) ⟨s, r, hs, rfl, ok.so, ok.ro, ok.ho, rfl⟩) <|
    stm_set 3 (ev_callP (ok_shut_pair E) hr (arg_cons (ev_var 0 rfl) (arg_cons (ev_var 1 rfl) (arg_cons (ev_var 2 rfl) arg_nil))) ⟨s, r, hs, rfl, ok.so, ok.sh, rfl⟩) nd <|
    stm_ifF (tst_eq (tst_cmp c_notN (ev_var 3 rfl) ev_non) rfl) <|
    stm_new 4 nd fun L =>
    stm_for (wk_lst (ev_callP (ok_texts_in E) hr (arg_cons (ev_var 2 rfl) arg_nil) ⟨s, hs, rfl, ok.ho, rfl⟩)) (tgt_name 5 nd)
      (fun i δ os2 => os2 = .lst (((txs hs).take i).map (papRow s r hs)) :: os1 ∧ ∃ x y z u, δ = [some s.d, some r.d, some (hrdD hs), some .non, some (.adr L), x, y, z, u]) ⟨rfl, _, _, _, _, rfl⟩ ?_ (fun δ os2 ⟨q1, x, y, z, u, q2⟩ => by
      subst q1 q2
      rw [List.length_map, List.take_length]
      exact stm_frz 4 rfl <| stm_ret (ev_tup (arg_cons ev_str (arg_cons (ev_bt b_tupL E.B.tuple boot_tuple (arg_cons (ev_var 4 rfl) arg_nil)) arg_nil))) ⟨rfl, rfl⟩) pn rfl
    rintro i d δ os2 hd ⟨rfl, x, y, z, u, rfl⟩
    rw [List.getElem?_map] at hd
    obtain ⟨t, ht, rfl⟩ := Option.map_eq_some_iff.mp hd
    have e1 : (txs hs).take (i + 1) = (txs hs).take i ++ [t] := by
      rw [List.take_add_one, ht] <;> rfl
    have l1 : (lowsL s r hs t).length ≤ 1000000 := by
      unfold lowsL
      rw [List.length_map]
      omega
    have l2 : (highsL s r hs t).length ≤ 1000000 := by
      unfold highsL
      rw [List.length_map]
      omega
    have m1 : (lowsL s r hs t).map D.int = hs.map fun h => D.int (lowF s r h t) := by
      unfold lowsL
      rw [List.map_map] <;> rfl
    have m2 : (highsL s r hs t).map D.int = hs.map fun h => D.int (highF s r h t) := by
      unfold highsL
      rw [List.map_map] <;> rfl
    refine ⟨_, rfl, stm_setLc0 6 (own := [("one", 8)]) hs Hrd.d (fun h => .int (lowF s r h t)) (wk_tup (ev_var 2 rfl)) (blkOk_by (by kernel_rfl)) (fun _ _ _ _ _ _ => (tgt_name 8 nd)) (fun x hx => ⟨_, rfl, fun L acc s2 H C cl fp => (ev_callP (ok_low_from E) hr (arg_cons (ev_var 0 rfl) (arg_cons (ev_var 1 rfl) (arg_cons (ev_var 8 rfl) (arg_cons (ev_var 5 rfl) arg_nil)))) ⟨s, r, x, t, rfl, ok.so, rfl⟩)⟩) (by omega) rfl nd <|
      stm_setLc0 7 (own := [("one", 8)]) hs Hrd.d (fun h => .int (highF s r h t)) (wk_tup (ev_var 2 rfl)) (blkOk_by (by kernel_rfl)) (fun _ _ _ _ _ _ => (tgt_name 8 nd)) (fun x hx => ⟨_, rfl, fun L acc s2 H C cl fp => (ev_callP (ok_high_from E) hr (arg_cons (ev_var 0 rfl) (arg_cons (ev_var 1 rfl) (arg_cons (ev_var 8 rfl) (arg_cons (ev_var 5 rfl) arg_nil)))) ⟨s, r, x, t, rfl, ok.so, rfl⟩)⟩) (by omega) rfl nd ?_⟩
    rw [← m1, ← m2]
    exact stm_expr (ev_append 0 (ev_var 4 rfl) (arg_cons (ev_tup (arg_cons (ev_bi (b_max (ns := lowsL s r hs t) rfl (nemap _)) E.B.max boot_max (arg_cons (ev_var 6 rfl) arg_nil)) (arg_cons (ev_bi (b_min (ns := highsL s r hs t) rfl (nemap _)) E.B.min boot_min (arg_cons (ev_var 7 rfl) arg_nil))
          (arg_cons (ev_index (ns := lowsL s r hs t) (ev_var 6 rfl) (arg_cons (ev_bi (b_max (ns := lowsL s r hs t) rfl (nemap _)) E.B.max boot_max (arg_cons (ev_var 6 rfl) arg_nil)) arg_nil) (low_at t ok.ho) l1)
          (arg_cons (ev_index (ns := highsL s r hs t) (ev_var 7 rfl) (arg_cons (ev_bi (b_min (ns := highsL s r hs t) rfl (nemap _)) E.B.min boot_min (arg_cons (ev_var 7 rfl) arg_nil)) arg_nil) (high_at t ok.ho) l2) arg_nil))))) arg_nil) rfl rfl rfl (by
        rw [List.length_map, List.length_take]
        omega)) <|
      stm_nil ⟨by
        rw [e1, List.map_append] <;> rfl, _, _, _, _, rfl⟩
def g_is_index : List D → D → Prop := fun ds d => ∃ (hs : List Hrd) (i : Nat), ds = [hrdD hs, .int i] ∧ i < hs.length ∧ d = .bl true
theorem ok_is_index (E : Env1 K mg) : Cl P w K mg base 4 "is_index" (pureC g_is_index) := by
  have nd : (["heard", "thing"] : List Str).Nodup := by decide +kernel
  refine cl_ok (N := ["heard", "thing"]) (ps := ["heard", "thing"]) (E.T.at 45) ⟨rfl, rfl, rfl, nd, rfl, by decide +kernel, by decide +kernel⟩ (fun _ _ _ _ _ _ us hl => match us, hl with | [_, _], _ => rfl) ?_ ?_
  · rintro M ds os d os1 ⟨_, hs, i, rfl, _⟩
    rfl
  · rintro f cdv A outer sh H E0 hr M ds os d os1 ⟨rfl, hs, i, rfl, hi, rfl⟩
    exact stm_ret (ev_and (ev_callP (ok_is_number E) hr (arg_cons (ev_var 1 rfl) arg_nil) ⟨_, rfl, rfl⟩) fun h1 => (ev_one (ev_cmp c_lt (ev_var 1 rfl) (ev_bi b_lenT E.B.len boot_len (arg_cons (ev_var 0 rfl) arg_nil))))) ⟨by simp; omega, rfl⟩
def g_is_span_row : List D → D → Prop := fun ds d => ∃ (s : Snd) (r : Roa) (hs : List Hrd) (t : Int), ds = [hrdD hs, papRow s r hs t] ∧ HOk s hs ∧ d = .bl true
theorem ok_is_span_row (E : Env1 K mg) : Cl P w K mg base 5 "is_span_row" (pureC g_is_span_row) := by
  have nd : (["heard", "thing"] : List Str).Nodup := by decide +kernel
  refine cl_ok (N := ["heard", "thing"]) (ps := ["heard", "thing"]) (E.T.at 46) ⟨rfl, rfl, rfl, nd, rfl, by decide +kernel, by decide +kernel⟩ (fun _ _ _ _ _ _ us hl => match us, hl with | [_, _], _ => rfl) ?_ ?_
  · rintro M ds os d os1 ⟨_, s, r, hs, t, rfl, _⟩
    rfl
  · rintro f cdv A outer sh H E0 hr M ds os d os1 ⟨rfl, s, r, hs, t, rfl, ok, rfl⟩
    obtain ⟨x, hx, _⟩ := low_ix (r := r) t ok
    obtain ⟨y, hy, _⟩ := high_ix (r := r) t ok
    exact
    stm_ifF (tst_eq (tst_w (tsw_or (tst_not (tst_val (ev_callP (ok_is_tuple_of E) hr (arg_cons (ev_var 1 rfl) (arg_cons ev_int arg_nil)) ⟨_, _, rfl, rfl⟩))) fun h4 => (tsw_or (tst_not (tst_val (ev_callP (ok_is_integer E) hr (arg_cons (ev_ixT (ev_var 1 rfl) ev_int rfl) arg_nil) ⟨_, rfl, rfl⟩))) fun h3 => (tsw_or1 (tst_not (tst_val (ev_callP (ok_is_integer E) hr (arg_cons (ev_ixT (ev_var 1 rfl) ev_int rfl) arg_nil) ⟨_, rfl, rfl⟩))))))) (by simp)) <|
    stm_ret (ev_and (ev_callP (ok_is_index E) hr (arg_cons (ev_var 0 rfl) (arg_cons (ev_ixT (ev_var 1 rfl) ev_int rfl) arg_nil)) ⟨hs, _, rfl, (List.getElem?_eq_some_iff.mp hx).1, rfl⟩) fun h5 => (ev_one (ev_callP (ok_is_index E) hr (arg_cons (ev_var 0 rfl) (arg_cons (ev_ixT (ev_var 1 rfl) ev_int rfl) arg_nil)) ⟨hs, _, rfl, (List.getElem?_eq_some_iff.mp hy).1, rfl⟩))) ⟨rfl, rfl⟩
def g_is_spans_form : List D → D → Prop := fun ds d => ∃ (s : Snd) (r : Roa) (hs : List Hrd), ds = [hrdD hs, papD s r hs] ∧ HOk s hs ∧ d = .bl true
theorem ok_is_spans_form (E : Env1 K mg) : Cl P w K mg base 6 "is_spans_form" (pureC g_is_spans_form) := by
  have nd : (["heard", "thing", "one"] : List Str).Nodup := by decide +kernel
  refine cl_ok (N := ["heard", "thing", "one"]) (ps := ["heard", "thing"]) (E.T.at 47) ⟨rfl, rfl, rfl, nd, rfl, by decide +kernel, by decide +kernel⟩ (fun _ _ _ _ _ _ us hl => match us, hl with | [_, _], _ => rfl) ?_ ?_
  · rintro M ds os d os1 ⟨_, s, r, hs, rfl, _⟩
    rfl
  · rintro f cdv A outer sh H E0 hr M ds os d os1 ⟨rfl, s, r, hs, rfl, ok, rfl⟩
    obtain ⟨b1, _⟩ := txs_len ok
    exact
    stm_ifF (tst_eq (tst_w (tsw_or (tst_not (tst_val (ev_callP (ok_is_tuple_of E) hr (arg_cons (ev_var 1 rfl) (arg_cons ev_int arg_nil)) ⟨_, _, rfl, rfl⟩))) fun h4 => (tsw_or (tst_not (tst_val (ev_bi (b_isi (fun _ _ => ty_str) kit_str_str) E.B.isinstance boot_isinstance (arg_cons (ev_ixT (ev_var 1 rfl) ev_int rfl) (arg_cons (ev_ty E.B.str boot_str) arg_nil))))) fun h3 => (tsw_or1 (tst_cmp c_neS (ev_ixT (ev_var 1 rfl) ev_int rfl) ev_str))))) (by simp)) <|
    stm_ret (ev_and (ev_callP (ok_is_tuple_of E) hr (arg_cons (ev_ixT (ev_var 1 rfl) ev_int rfl) (arg_cons (ev_bi b_lenL E.B.len boot_len (arg_cons (ev_callP (ok_texts_in E) hr (arg_cons (ev_var 0 rfl) arg_nil) ⟨s, hs, rfl, ok, rfl⟩) arg_nil)) arg_nil)) ⟨_, _, rfl, rfl⟩) fun h5 => (ev_one (ev_bi (b_all (bs := (txs hs).map fun _ => true) rfl) E.B.all boot_all (arg_cons (ev_lc0 (own := [("one", 2)]) (txs hs) (papRow s r hs) (fun _ => .bl true) (wk_tup (ev_ixT (ev_var 1 rfl) ev_int rfl)) (blkOk_by (by kernel_rfl)) (fun _ _ _ _ _ _ => (tgt_name 2 nd)) (fun x hx => ⟨_, rfl, fun L acc s2 H C cl fp => (ev_callP (ok_is_span_row E) hr (arg_cons (ev_var 0 rfl) (arg_cons (ev_var 2 rfl) arg_nil)) ⟨s, r, hs, x, rfl, ok, rfl⟩)⟩) (by omega) rfl nd (by simp)) arg_nil)))) ⟨by simp, rfl⟩
def g_is_shut_form : List D → D → Prop := fun ds d => ∃ (s : Snd) (r : Roa) (hs : List Hrd), ds = [hrdD hs, papD s r hs] ∧ d = .bl false
theorem ok_is_shut_form (E : Env1 K mg) : Cl P w K mg base 5 "is_shut_form" (pureC g_is_shut_form) := by
  have nd : (["heard", "thing"] : List Str).Nodup := by decide +kernel
  refine cl_ok (N := ["heard", "thing"]) (ps := ["heard", "thing"]) (E.T.at 48) ⟨rfl, rfl, rfl, nd, rfl, by decide +kernel, by decide +kernel⟩ (fun _ _ _ _ _ _ us hl => match us, hl with | [_, _], _ => rfl) ?_ ?_
  · rintro M ds os d os1 ⟨_, s, r, hs, rfl, _⟩
    rfl
  · rintro f cdv A outer sh H E0 hr M ds os d os1 ⟨rfl, s, r, hs, rfl, rfl⟩
    exact
    stm_ifR (bl := true) (tst_w (tsw_orT (tst_eq (tst_not (tst_val (ev_callP (ok_is_tuple_of E) hr (arg_cons (ev_var 1 rfl) (arg_cons ev_int arg_nil)) ⟨_, _, rfl, rfl⟩))) (by simp)))) (fun h1 =>
      stm_ret ev_bl ⟨rfl, rfl⟩) fun h2 => by cases h2
def g_check_ends : List D → D → Prop := fun ds d => ∃ (s : Snd) (r : Roa) (hs : List Hrd), ds = [s.d, r.d, hrdD hs, papRows s r hs] ∧ s.Ok ∧ HOk s hs ∧ d = .non
theorem ok_check_ends (E : Env1 K mg) : Cl P w K mg base 2 "check_ends" (pureC g_check_ends) := by
  have nd : (["sender", "road", "heard", "told", "k", "text", "low", "high", "i", "j"] : List Str).Nodup := by decide +kernel
  refine cl_ok (N := ["sender", "road", "heard", "told", "k", "text", "low", "high", "i", "j"]) (ps := ["sender", "road", "heard", "told"]) (E.T.at 49) ⟨rfl, rfl, rfl, nd, rfl, by decide +kernel, by decide +kernel⟩ (fun _ _ _ _ _ _ us hl => match us, hl with | [_, _, _, _], _ => rfl) ?_ ?_
  · rintro M ds os d os1 ⟨_, s, r, hs, rfl, _⟩
    rfl
  · rintro f cdv A outer sh H E0 hr M ds os d os1 ⟨rfl, s, r, hs, rfl, so, ok, rfl⟩
    refine
    stm_for (wk_enumL (ds' := enL (txs hs) D.int) E.B.enumerate (ev_callP (ok_texts_in E) hr (arg_cons (ev_var 2 rfl) arg_nil) ⟨s, hs, rfl, ok, rfl⟩) (enL_hd _ _)) (tgt_tup rfl (tgts_cons (tgt_name 4 nd) (tgts_cons (tgt_name 5 nd) tgts_nil)) (fCons_len (fCons_len fNil_len)))
      (fun _ δ os2 => os2 = os1 ∧ ∃ x1 x2 x3 x4 x5 x6, δ = [some s.d, some r.d, some (hrdD hs), some (papRows s r hs), x1, x2, x3, x4, x5, x6]) ⟨rfl, _, _, _, _, _, _, rfl⟩ ?_ (fun δ os2 ⟨q1, _, _, _, _, _, _, q2⟩ => stm_nil ⟨rfl, q1⟩) pn rfl
    rintro i d δ os2 hd ⟨rfl, _, _, _, _, _, _, rfl⟩
    obtain ⟨t, ht, rfl⟩ := enL_get hd
    obtain ⟨x, hx, ex⟩ := low_ix (r := r) t ok
    obtain ⟨y, hy, ey⟩ := high_ix (r := r) t ok
    exact ⟨_, rfl, stm_asg (d := papRow s r hs t) (ev_ixT (ev_var 3 rfl) (ev_var 4 rfl) (atI_nat (by rw [List.getElem?_map, ht] <;> rfl))) (tgt_tup rfl (tgts_cons (tgt_name 6 nd) (tgts_cons (tgt_name 7 nd) (tgts_cons (tgt_name 8 nd) (tgts_cons (tgt_name 9 nd) tgts_nil)))) (fCons_len (fCons_len (fCons_len (fCons_len fNil_len))))) rfl <|
      stm_ifF (tst_eq (tst_cmp c_neI (ev_var 6 rfl) (ev_callP (ok_low_from E) hr (arg_cons (ev_var 0 rfl) (arg_cons (ev_var 1 rfl) (arg_cons (ev_ixT (d := x.d) (ev_var 2 rfl) (ev_var 8 rfl) (atI_nat (by rw [List.getElem?_map, hx] <;> rfl))) (arg_cons (ev_var 5 rfl) arg_nil)))) ⟨s, r, x, t, rfl, so, rfl⟩)) (by rw [ex]; simp)) <|
      stm_ifF (tst_eq (tst_cmp c_neI (ev_var 7 rfl) (ev_callP (ok_high_from E) hr (arg_cons (ev_var 0 rfl) (arg_cons (ev_var 1 rfl) (arg_cons (ev_ixT (d := y.d) (ev_var 2 rfl) (ev_var 9 rfl) (atI_nat (by rw [List.getElem?_map, hy] <;> rfl))) (arg_cons (ev_var 5 rfl) arg_nil)))) ⟨s, r, y, t, rfl, so, rfl⟩)) (by rw [ey]; simp)) <|
      stm_nil ⟨rfl, _, _, _, _, _, _, rfl⟩⟩
def g_check_paces : List D → D → Prop := fun ds d => ∃ (s : Snd) (r : Roa) (hs : List Hrd), ds = [s.d, papRows s r hs] ∧ SpOk2 s r hs ∧ d = .non
theorem ok_check_paces (E : Env1 K mg) : Cl P w K mg base 1 "check_paces" (pureC g_check_paces) := by
  have nd : (["sender", "told", "k", "end"] : List Str).Nodup := by decide +kernel
  refine cl_ok (N := ["sender", "told", "k", "end"]) (ps := ["sender", "told"]) (E.T.at 50) ⟨rfl, rfl, rfl, nd, rfl, by decide +kernel, by decide +kernel⟩ (fun _ _ _ _ _ _ us hl => match us, hl with | [_, _], _ => rfl) ?_ ?_
  · rintro M ds os d os1 ⟨_, s, r, hs, rfl, _⟩
    rfl
  · rintro f cdv A outer sh H E0 hr M ds os d os1 ⟨rfl, s, r, hs, rfl, ok, rfl⟩
    obtain ⟨b1, b2, b3, b4, b5⟩ := txs_len ok.ho
    have hlen : ((txs hs).map (papRow s r hs)).length = (lastT hs + 1 - firstT hs).toNat := by rw [List.length_map, txs_lenE]
    refine
    stm_for (wk_rng2 E.B.range (arg_cons ev_int (arg_cons (ev_bi b_lenT E.B.len boot_len (arg_cons (ev_var 1 rfl) arg_nil)) arg_nil)) (by rw [hlen]; omega)) (tgt_name 2 nd)
      (fun _ δ os2 => os2 = os1 ∧ ∃ x y, δ = [some s.d, some (papRows s r hs), x, y]) ⟨rfl, _, _, rfl⟩ ?_ (fun δ os2 ⟨q1, _, _, q2⟩ => stm_nil ⟨rfl, q1⟩) pn rfl
    rintro i d δ os2 hd ⟨rfl, _, _, rfl⟩
    obtain ⟨hi, rfl⟩ := rngD_get hd
    rw [hlen] at hi
    have e0 : (txs hs)[i]? = some (firstT hs + i) := by
      have := txs_at (hs := hs) (t := firstT hs + i) (by omega) (by omega)
      rwa [show (firstT hs + (i : Int) - firstT hs).toNat = i by omega] at this
    have e1 : (txs hs)[i + 1]? = some (firstT hs + i + 1) := by
      have := txs_at (hs := hs) (t := firstT hs + i + 1) (by omega) (by omega)
      rwa [show (firstT hs + (i : Int) + 1 - firstT hs).toNat = i + 1 by omega] at this
    have f0 : atI ((txs hs).map (papRow s r hs)) (1 + (i : Int) - 1) = some (papRow s r hs (firstT hs + i)) := by
      rw [show (1 + (i : Int) - 1) = ((i : Nat) : Int) by omega]
      exact atI_nat (by rw [List.getElem?_map, e0] <;> rfl)
    have f1 : atI ((txs hs).map (papRow s r hs)) (1 + (i : Int)) = some (papRow s r hs (firstT hs + i + 1)) := by
      rw [show (1 + (i : Int)) = ((i + 1 : Nat) : Int) by omega]
      exact atI_nat (by rw [List.getElem?_map, e1] <;> rfl)
    obtain ⟨⟨p1, p2⟩, p3, p4⟩ := ok.pace (firstT hs + i) (by omega) (by omega)
    refine ⟨_, rfl, stm_for (wk_tup (ev_tup (arg_cons ev_int (arg_cons ev_int arg_nil)))) (tgt_name 3 nd) (fun _ δ os2' => os2' = os2 ∧ ∃ y, δ = [some s.d, some (papRows s r hs), some (.int (1 + (i : Int))), y]) ⟨rfl, _, rfl⟩ ?_ (fun δ os2 ⟨q1, _, q2⟩ => by
      subst q1 q2
      exact stm_nil ⟨rfl, _, _, rfl⟩) pn rfl⟩
    rintro i2 d2 δ2 os3 hd2 ⟨rfl, _, rfl⟩
    have hm := List.mem_of_getElem? hd2
    simp only [List.mem_cons, List.not_mem_nil, or_false] at hm
    rcases hm with rfl | rfl
    · exact ⟨_, rfl, stm_ifF (tst_eq (tst_not (tst_chain c_le c_le (ev_ixT (ev_var 0 rfl) ev_int rfl) (ev_sub (ev_ixT (ev_ixT (ev_var 1 rfl) (ev_var 2 rfl) f1) (ev_var 3 rfl) rfl) (ev_ixT (ev_ixT (ev_var 1 rfl) (ev_sub (ev_var 2 rfl) ev_int) f0) (ev_var 3 rfl) rfl)) (ev_ixT (ev_var 0 rfl) ev_int rfl) fun _ => rfl)) (by simp; omega)) <| stm_nil ⟨rfl, _, rfl⟩⟩
    · exact ⟨_, rfl, stm_ifF (tst_eq (tst_not (tst_chain c_le c_le (ev_ixT (ev_var 0 rfl) ev_int rfl) (ev_sub (ev_ixT (ev_ixT (ev_var 1 rfl) (ev_var 2 rfl) f1) (ev_var 3 rfl) rfl) (ev_ixT (ev_ixT (ev_var 1 rfl) (ev_sub (ev_var 2 rfl) ev_int) f0) (ev_var 3 rfl) rfl)) (ev_ixT (ev_var 0 rfl) ev_int rfl) fun _ => rfl)) (by simp; omega)) <| stm_nil ⟨rfl, _, rfl⟩⟩
def g_check_arrivals : List D → D → Prop := fun ds d => ∃ (s : Snd) (r : Roa) (hs : List Hrd), ds = [r.d, hrdD hs, papRows s r hs] ∧ SpOk2 s r hs ∧ d = .non
theorem ok_check_arrivals (E : Env1 K mg) : Cl P w K mg base 1 "check_arrivals" (pureC g_check_arrivals) := by
  have nd : (["road", "heard", "told", "m", "one", "end"] : List Str).Nodup := by decide +kernel
  refine cl_ok (N := ["road", "heard", "told", "m", "one", "end"]) (ps := ["road", "heard", "told"]) (E.T.at 51) ⟨rfl, rfl, rfl, nd, rfl, by decide +kernel, by decide +kernel⟩ (fun _ _ _ _ _ _ us hl => match us, hl with | [_, _, _], _ => rfl) ?_ ?_
  · rintro M ds os d os1 ⟨_, s, r, hs, rfl, _⟩
    rfl
  · rintro f cdv A outer sh H E0 hr M ds os d os1 ⟨rfl, s, r, hs, rfl, ok, rfl⟩
    refine
    stm_for (wk_enumT (ds' := enL hs Hrd.d) E.B.enumerate (ev_var 1 rfl) (enL_hd _ _)) (tgt_tup rfl (tgts_cons (tgt_name 3 nd) (tgts_cons (tgt_name 4 nd) tgts_nil)) (fCons_len (fCons_len fNil_len)))
      (fun _ δ os2 => os2 = os1 ∧ ∃ x y z, δ = [some r.d, some (hrdD hs), some (papRows s r hs), x, y, z]) ⟨rfl, _, _, _, rfl⟩ ?_ (fun δ os2 ⟨q1, _, _, _, q2⟩ => stm_nil ⟨rfl, q1⟩) pn rfl
    rintro i d δ os2 hd ⟨rfl, _, _, _, rfl⟩
    obtain ⟨x, hx, rfl⟩ := enL_get hd
    have hm := List.mem_of_getElem? hx
    obtain ⟨r1, r2⟩ := ok.rng x hm
    obtain ⟨⟨p1, p2⟩, p3, p4⟩ := ok.arr x hm
    have f1 : atI ((txs hs).map (papRow s r hs)) (x.t - (hs.headD ⟨0, 0, 0⟩).t) = some (papRow s r hs x.t) := by
      rw [show (x.t - (hs.headD ⟨0, 0, 0⟩).t) = ((x.t - firstT hs).toNat : Int) by unfold firstT at *; omega]
      exact atI_nat (by rw [List.getElem?_map, txs_at r1 r2] <;> rfl)
    refine ⟨_, rfl, stm_for (wk_tup (ev_tup (arg_cons ev_int (arg_cons ev_int arg_nil)))) (tgt_name 5 nd) (fun _ δ os2' => os2' = os2 ∧ ∃ z, δ = [some r.d, some (hrdD hs), some (papRows s r hs), some (.int (i : Nat)), some x.d, z]) ⟨rfl, _, rfl⟩ ?_ (fun δ os2 ⟨q1, _, q2⟩ => by
      subst q1 q2
      exact stm_nil ⟨rfl, _, _, _, rfl⟩) pn rfl⟩
    rintro i2 d2 δ2 os3 hd2 ⟨rfl, _, rfl⟩
    have hm2 := List.mem_of_getElem? hd2
    simp only [List.mem_cons, List.not_mem_nil, or_false] at hm2
    rcases hm2 with rfl | rfl
    · exact ⟨_, rfl, stm_ifF (tst_eq (tst_not (tst_chain c_le c_le (ev_ixT (ev_var 0 rfl) ev_int rfl) (ev_sub (ev_ixT (ev_var 4 rfl) ev_int rfl) (ev_ixT (ev_ixT (ev_var 2 rfl) (ev_sub (ev_ixT (ev_var 4 rfl) ev_int rfl) (ev_ixT (ev_ixT (ev_var 1 rfl) ev_int (atI_first ok.ho)) ev_int rfl)) f1) (ev_var 5 rfl) rfl)) (ev_add (ev_ixT (ev_var 0 rfl) ev_int rfl) (ev_ixT (ev_var 0 rfl) ev_int rfl)) fun _ => rfl)) (by simp; omega)) <| stm_nil ⟨rfl, _, rfl⟩⟩
    · exact ⟨_, rfl, stm_ifF (tst_eq (tst_not (tst_chain c_le c_le (ev_ixT (ev_var 0 rfl) ev_int rfl) (ev_sub (ev_ixT (ev_var 4 rfl) ev_int rfl) (ev_ixT (ev_ixT (ev_var 2 rfl) (ev_sub (ev_ixT (ev_var 4 rfl) ev_int rfl) (ev_ixT (ev_ixT (ev_var 1 rfl) ev_int (atI_first ok.ho)) ev_int rfl)) f1) (ev_var 5 rfl) rfl)) (ev_add (ev_ixT (ev_var 0 rfl) ev_int rfl) (ev_ixT (ev_var 0 rfl) ev_int rfl)) fun _ => rfl)) (by simp; omega)) <| stm_nil ⟨rfl, _, rfl⟩⟩
def g_lets_spans : List D → D → Prop := fun ds d => ∃ (s : Snd) (r : Roa) (hs : List Hrd), ds = [s.d, r.d, hrdD hs, papD s r hs] ∧ SpOk2 s r hs ∧ d = .bl true
theorem ok_lets_spans (E : Env1 K mg) : Cl P w K mg base 7 "lets_spans" (pureC g_lets_spans) := by
  have nd : (["sender", "road", "heard", "thing"] : List Str).Nodup := by decide +kernel
  refine cl_ok (N := ["sender", "road", "heard", "thing"]) (ps := ["sender", "road", "heard", "thing"]) (E.T.at 52) ⟨rfl, rfl, rfl, nd, rfl, by decide +kernel, by decide +kernel⟩ (fun _ _ _ _ _ _ us hl => match us, hl with | [_, _, _, _], _ => rfl) ?_ ?_
  · rintro M ds os d os1 ⟨_, s, r, hs, rfl, _⟩
    rfl
  · rintro f cdv A outer sh H E0 hr M ds os d os1 ⟨rfl, s, r, hs, rfl, ok, rfl⟩
    exact
    stm_expr (ev_callP (ok_want_heard E) hr (arg_cons (ev_var 0 rfl) (arg_cons (ev_var 1 rfl) (arg_cons (ev_var 2 rfl) arg_nil))) ⟨s, r, hs, rfl, ok.so, ok.ro, ok.ho, rfl⟩) <|
    stm_ifF (tst_val (ev_callP (ok_is_shut_form E) hr (arg_cons (ev_var 2 rfl) (arg_cons (ev_var 3 rfl) arg_nil)) ⟨s, r, hs, rfl, rfl⟩)) <|
    stm_ifF (tst_eq (tst_not (tst_val (ev_callP (ok_is_spans_form E) hr (arg_cons (ev_var 2 rfl) (arg_cons (ev_var 3 rfl) arg_nil)) ⟨s, r, hs, rfl, ok.ho, rfl⟩))) rfl) <|
    stm_expr (ev_callP (ok_check_ends E) hr (arg_cons (ev_var 0 rfl) (arg_cons (ev_var 1 rfl) (arg_cons (ev_var 2 rfl) (arg_cons (ev_ixT (ev_var 3 rfl) ev_int rfl) arg_nil)))) ⟨s, r, hs, rfl, ok.so, ok.ho, rfl⟩) <|
    stm_expr (ev_callP (ok_check_paces E) hr (arg_cons (ev_var 0 rfl) (arg_cons (ev_ixT (ev_var 3 rfl) ev_int rfl) arg_nil)) ⟨s, r, hs, rfl, ok, rfl⟩) <|
    stm_expr (ev_callP (ok_check_arrivals E) hr (arg_cons (ev_var 1 rfl) (arg_cons (ev_var 2 rfl) (arg_cons (ev_ixT (ev_var 3 rfl) ev_int rfl) arg_nil))) ⟨s, r, hs, rfl, ok, rfl⟩) <|
    stm_ret ev_bl ⟨rfl, rfl⟩
end
end PW
namespace PW
open PySem PySem.Spec PyProof.Rows L2
/-! ### what a number means -/
def leastF (s : Snd) (r : Roa) (g : Int) : Int := if 0 ≤ r.q - g then -((r.q - g) / s.a) else -((r.q - g) / s.b)
def greatF (s : Snd) (r : Roa) (g : Int) : Int := (g + r.q) / s.a
def furF (s : Snd) (k : Int) : Bool := !decide (k = 0) || (decide (1 < s.n) || decide (1 < s.c))
def mensF (s : Snd) (r : Roa) (g : Int) : List Int := ((List.range (greatF s r g + 1 - leastF s r g).toNat).filter fun i : Nat => furF s (leastF s r g + (i : Int))).map fun i : Nat => leastF s r g + (i : Int)
def mngF (s : Snd) (r : Roa) (n g l : Int) : List Int := (mensF s r g).filter fun k => decide ((n + k - l) % s.m = 0)
def widF (s : Snd) (r : Roa) (g : Int) : Int := (mensF s r g).getLastD 0 - (mensF s r g).headD 0
def sureF (s : Snd) (r : Roa) (g : Int) : Int := 1 + maxL ((List.range (g + 1).toNat).map fun i : Nat => widF s r (0 + (i : Int)))
def bookD (s : Snd) (r : Roa) (e : Ear) : D := .tup [s.d, r.d, e.d]
theorem cdiv_a {s : Snd} (h : s.Ok) (x : Int) : CDiv x s.a := ⟨by have := h.a1; omega, by have := h.a2; omega⟩
theorem cdiv_b {s : Snd} (h : s.Ok) (x : Int) : CDiv x s.b := ⟨by have := h.a1; have := h.b1; omega, by have := h.b2; omega⟩
theorem ends_bd {s : Snd} {r : Roa} {g : Int} (hs : s.Ok) (hr : r.Ok) (g0 : 0 ≤ g) (g1 : g ≤ 1000) : -2000 ≤ leastF s r g ∧ leastF s r g ≤ 2000 ∧ -2000 ≤ greatF s r g ∧ greatF s r g ≤ 2000 := by
  have a1 := hs.a1
  have b1 := hs.b1
  have q1 := hr.q1
  have q2 := hr.q2
  have pos : ∀ x a : Int, 0 ≤ x → 1 ≤ a → 0 ≤ x / a ∧ x / a ≤ x := fun x a hx ha => ⟨Int.ediv_nonneg hx (by omega), Int.ediv_le_self a hx⟩
  have neg : ∀ x a : Int, x < 0 → 1 ≤ a → x ≤ x / a ∧ x / a ≤ 0 := fun x a hx ha => by
    refine ⟨Int.le_ediv_of_mul_le (by omega) ?_, ?_⟩
    · have h1 : x * a ≤ x * 1 := Int.mul_le_mul_of_nonpos_left (by omega) ha
      omega
    · have := Int.ediv_neg_of_neg_of_pos hx (by omega : 0 < a)
      omega
  unfold leastF greatF
  have p1 := pos (g + r.q) s.a (by omega) a1
  by_cases h : 0 ≤ r.q - g
  · rw [if_pos h]
    have p2 := pos (r.q - g) s.a h a1
    omega
  · rw [if_neg h]
    have p2 := neg (r.q - g) s.b (by omega) (by omega)
    omega
section
variable {P : Program} {w : World} {K : PySem.W.Frag} {mg : Str → Option Value} {base : Heap}
def g_want_plain : List D → D → Prop := fun ds d => ∃ (s : Snd) (r : Roa), ds = [s.d, r.d] ∧ s.Ok ∧ r.Ok ∧ d = .non
theorem ok_want_plain (E : Env1 K mg) : Cl P w K mg base 6 "want_plain" (pureC g_want_plain) := by
  have nd : (["sender", "road"] : List Str).Nodup := by decide +kernel
  refine cl_ok (N := ["sender", "road"]) (ps := ["sender", "road"]) (E.T.at 38) ⟨rfl, rfl, rfl, nd, rfl, by decide +kernel, by decide +kernel⟩ (fun _ _ _ _ _ _ us hl => match us, hl with | [_, _], _ => rfl) ?_ ?_
  · rintro M ds os d os1 ⟨_, s, r, rfl, _⟩
    rfl
  · rintro f cdv A outer sh H E0 hr M ds os d os1 ⟨rfl, s, r, rfl, hs1, hr1, rfl⟩
    exact
    stm_expr (ev_callP (ok_want E) hr (arg_cons (ev_and (ev_callP (ok_is_sender E) hr (arg_cons (ev_var 0 rfl) arg_nil) ⟨s, rfl, hs1, rfl⟩) fun h1 => (ev_one (ev_cmp c_isN (ev_ixT (ev_var 0 rfl) ev_int rfl) ev_non))) (arg_cons ev_str arg_nil)) ⟨_, rfl, rfl⟩) <|
    stm_expr (ev_callP (ok_want E) hr (arg_cons (ev_callP (ok_is_road E) hr (arg_cons (ev_var 1 rfl) arg_nil) ⟨r, rfl, hr1, rfl⟩) (arg_cons ev_str arg_nil)) ⟨_, rfl, rfl⟩) <|
    stm_nil ⟨rfl, rfl⟩
def g_ends_at : List D → D → Prop := fun ds d => ∃ (s : Snd) (r : Roa) (g : Int), ds = [s.d, r.d, .int g] ∧ s.Ok ∧ d = .tup [.int (leastF s r g), .int (greatF s r g)]
theorem ok_ends_at (E : Env1 K mg) : Cl P w K mg base 1 "ends_at" (pureC g_ends_at) := by
  have nd : (["sender", "road", "gap", "near", "a", "b"] : List Str).Nodup := by decide +kernel
  refine cl_ok (N := ["sender", "road", "gap", "near", "a", "b"]) (ps := ["sender", "road", "gap"]) (E.T.at 39) ⟨rfl, rfl, rfl, nd, rfl, by decide +kernel, by decide +kernel⟩ (fun _ _ _ _ _ _ us hl => match us, hl with | [_, _, _], _ => rfl) ?_ ?_
  · rintro M ds os d os1 ⟨_, s, r, g, rfl, _⟩
    rfl
  · rintro f cdv A outer sh H E0 hr M ds os d os1 ⟨rfl, s, r, g, rfl, hs, rfl⟩
    exact
    stm_asg (d := .tup [.int s.a, .int s.b]) (ev_eq (ev_cutT (ev_var 0 rfl) prt_no (prt_yes ev_int)) rfl) (tgt_tup rfl (tgts_cons (tgt_name 4 nd) (tgts_cons (tgt_name 5 nd) tgts_nil)) (fCons_len (fCons_len fNil_len))) rfl <|
    stm_set 3 (ev_sub (ev_ixT (ev_var 1 rfl) ev_int rfl) (ev_var 2 rfl)) nd <|
    stm_ret (ev_tup (arg_cons (ev_if (d := .int (leastF s r g)) (tst_cmp c_ge (ev_var 3 rfl) ev_int) (fun h1 => ev_eq (ev_neg (ev_fdiv (ev_var 3 rfl) (ev_var 4 rfl) (cdiv_a hs _))) (by unfold leastF; rw [if_pos (of_decide_eq_true h1)])) fun h2 => ev_eq (ev_neg (ev_fdiv (ev_var 3 rfl) (ev_var 5 rfl) (cdiv_b hs _))) (by unfold leastF; rw [if_neg (of_decide_eq_false h2)])) (arg_cons (ev_fdiv (ev_add (ev_var 2 rfl) (ev_ixT (ev_var 1 rfl) ev_int rfl)) (ev_var 4 rfl) (cdiv_a hs _)) arg_nil))) ⟨rfl, rfl⟩
def g_is_further : List D → D → Prop := fun ds d => ∃ (s : Snd) (k : Int), ds = [s.d, .int k] ∧ d = .bl (furF s k)
theorem ok_is_further (E : Env1 K mg) : Cl P w K mg base 1 "is_further" (pureC g_is_further) := by
  have nd : (["sender", "k"] : List Str).Nodup := by decide +kernel
  refine cl_ok (N := ["sender", "k"]) (ps := ["sender", "k"]) (E.T.at 40) ⟨rfl, rfl, rfl, nd, rfl, by decide +kernel, by decide +kernel⟩ (fun _ _ _ _ _ _ us hl => match us, hl with | [_, _], _ => rfl) ?_ ?_
  · rintro M ds os d os1 ⟨_, s, k, rfl, _⟩
    rfl
  · rintro f cdv A outer sh H E0 hr M ds os d os1 ⟨rfl, s, k, rfl, rfl⟩
    exact
    stm_ret (ev_or (ev_cmp c_neI (ev_var 1 rfl) ev_int) fun h2 => (ev_or (ev_cmp c_gt (ev_ixT (ev_var 0 rfl) ev_int rfl) ev_int) fun h1 => (ev_one (ev_cmp c_gt (ev_ixT (ev_var 0 rfl) ev_int rfl) ev_int)))) ⟨rfl, rfl⟩
def g_all_meanings : List D → D → Prop := fun ds d => ∃ (s : Snd) (r : Roa) (g : Int), ds = [s.d, r.d, .int g] ∧ s.Ok ∧ r.Ok ∧ 0 ≤ g ∧ g ≤ 1000 ∧ d = .lst ((mensF s r g).map D.int)
theorem ok_all_meanings (E : Env1 K mg) : Cl P w K mg base 2 "all_meanings" (pureC g_all_meanings) := by
  have nd : (["sender", "road", "gap", "least", "greatest", "k"] : List Str).Nodup := by decide +kernel
  refine cl_ok (N := ["sender", "road", "gap", "least", "greatest", "k"]) (ps := ["sender", "road", "gap"]) (E.T.at 41) ⟨rfl, rfl, rfl, nd, rfl, by decide +kernel, by decide +kernel⟩ (fun _ _ _ _ _ _ us hl => match us, hl with | [_, _, _], _ => rfl) ?_ ?_
  · rintro M ds os d os1 ⟨_, s, r, g, rfl, _⟩
    rfl
  · rintro f cdv A outer sh H E0 hr M ds os d os1 ⟨rfl, s, r, g, rfl, hs, hr1, g0, g1, rfl⟩
    obtain ⟨b1, b2, b3, b4⟩ := ends_bd hs hr1 g0 g1
    exact
    stm_asg (ev_callP (ok_ends_at E) hr (arg_cons (ev_var 0 rfl) (arg_cons (ev_var 1 rfl) (arg_cons (ev_var 2 rfl) arg_nil))) ⟨s, r, g, rfl, hs, rfl⟩) (tgt_tup rfl (tgts_cons (tgt_name 3 nd) (tgts_cons (tgt_name 4 nd) tgts_nil)) (fCons_len (fCons_len fNil_len))) rfl <|
    stm_ret (ev_eq (ev_lc (own := [("k", 5)]) (List.range (greatF s r g + 1 - leastF s r g).toNat) (fun i : Nat => .int (leastF s r g + (i : Int))) (fun i : Nat => furF s (leastF s r g + (i : Int))) (fun i : Nat => .int (leastF s r g + (i : Int))) (wk_rng2 E.B.range (arg_cons (ev_var 3 rfl) (arg_cons (ev_add (ev_var 4 rfl) ev_int) arg_nil)) (by omega)) (blkOk_by (by kernel_rfl)) (fun _ _ _ _ _ _ => (tgt_name 5 nd)) (fun x hx => ⟨_, rfl, fun L acc => ⟨fun s2 H C cl fp => (tsts_one (tst_val (ev_callP (ok_is_further E) hr (arg_cons (ev_var 0 rfl) (arg_cons (ev_var 5 rfl) arg_nil)) ⟨s, _, rfl, rfl⟩))), fun hp s H C cl fp => (ev_var 5 rfl)⟩⟩) (by
      rw [List.length_range]
      omega) rfl nd) (by
      unfold mensF
      rw [List.map_map]
      rfl)) ⟨rfl, rfl⟩
theorem mens_len {s : Snd} {r : Roa} {g : Int} (hs : s.Ok) (hr : r.Ok) (g0 : 0 ≤ g) (g1 : g ≤ 1000) : (mensF s r g).length ≤ 5000 := by
  obtain ⟨b1, b2, b3, b4⟩ := ends_bd hs hr g0 g1
  unfold mensF
  rw [List.length_map]
  refine Nat.le_trans (List.length_filter_le _ _) ?_
  rw [List.length_range]
  omega
def g_meanings_of : List D → D → Prop := fun ds d => ∃ (s : Snd) (r : Roa) (n g l : Int), ds = [s.d, r.d, .int n, .int g, .int l] ∧ s.Ok ∧ r.Ok ∧ 0 ≤ g ∧ g ≤ 1000 ∧ 0 ≤ n ∧ n < s.m ∧ 0 ≤ l ∧ l < s.m ∧ d = .tup ((mngF s r n g l).map D.int)
theorem ok_meanings_of (E : Env1 K mg) : Cl P w K mg base 7 "meanings_of" (pureC g_meanings_of) := by
  have nd : (["sender", "road", "number", "gap", "late_number", "many", "k"] : List Str).Nodup := by decide +kernel
  refine cl_ok (N := ["sender", "road", "number", "gap", "late_number", "many", "k"]) (ps := ["sender", "road", "number", "gap", "late_number"]) (E.T.at 42) ⟨rfl, rfl, rfl, nd, rfl, by decide +kernel, by decide +kernel⟩ (fun _ _ _ _ _ _ us hl => match us, hl with | [_, _, _, _, _], _ => rfl) ?_ ?_
  · rintro M ds os d os1 ⟨_, s, r, n, g, l, rfl, _⟩
    rfl
  · rintro f cdv A outer sh H E0 hr M ds os d os1 ⟨rfl, s, r, n, g, l, rfl, hs, hr1, g0, g1, n0, n1, l0, l1, rfl⟩
    have hz := mens_len hs hr1 g0 g1
    have m1 := hs.m1
    exact
    stm_expr (ev_callP (ok_want_plain E) hr (arg_cons (ev_var 0 rfl) (arg_cons (ev_var 1 rfl) arg_nil)) ⟨s, r, rfl, hs, hr1, rfl⟩) <|
    stm_set 5 (ev_ixT (ev_var 0 rfl) ev_int rfl) nd <|
    stm_expr (ev_callP (ok_want E) hr (arg_cons (ev_eq (d := .bl true) (ev_and (ev_callP (ok_is_number E) hr (arg_cons (ev_var 2 rfl) arg_nil) ⟨_, rfl, rfl⟩) fun h1 => (ev_one (ev_cmp c_lt (ev_var 2 rfl) (ev_var 5 rfl)))) (by simp; omega)) (arg_cons ev_str arg_nil)) ⟨_, rfl, rfl⟩) <|
    stm_expr (ev_callP (ok_want E) hr (arg_cons (ev_eq (d := .bl true) (ev_callP (ok_is_number E) hr (arg_cons (ev_var 3 rfl) arg_nil) ⟨_, rfl, rfl⟩) (by simp; omega)) (arg_cons ev_str arg_nil)) ⟨_, rfl, rfl⟩) <|
    stm_expr (ev_callP (ok_want E) hr (arg_cons (ev_eq (d := .bl true) (ev_and (ev_callP (ok_is_number E) hr (arg_cons (ev_var 4 rfl) arg_nil) ⟨_, rfl, rfl⟩) fun h2 => (ev_one (ev_cmp c_lt (ev_var 4 rfl) (ev_var 5 rfl)))) (by simp; omega)) (arg_cons ev_str arg_nil)) ⟨_, rfl, rfl⟩) <|
    stm_ret (ev_bt b_tupL E.B.tuple boot_tuple (arg_cons (ev_lc (own := [("k", 6)]) (mensF s r g) D.int (fun k => decide ((n + k - l) % s.m = 0)) D.int (wk_lst (ev_callP (ok_all_meanings E) hr (arg_cons (ev_var 0 rfl) (arg_cons (ev_var 1 rfl) (arg_cons (ev_var 3 rfl) arg_nil))) ⟨s, r, g, rfl, hs, hr1, g0, g1, rfl⟩)) (blkOk_by (by kernel_rfl)) (fun _ _ _ _ _ _ => (tgt_name 6 nd)) (fun x hx => ⟨_, rfl, fun L acc => ⟨fun s2 H C cl fp => (tsts_one (tst_cmp c_eqI (ev_mod (ev_sub (ev_add (ev_var 2 rfl) (ev_var 6 rfl)) (ev_var 4 rfl)) (ev_var 5 rfl) (by omega)) ev_int)), fun hp s2 H C cl fp => (ev_var 6 rfl)⟩⟩) (by omega) rfl nd) arg_nil)) ⟨rfl, rfl⟩
def g_width_at : List D → D → Prop := fun ds d => ∃ (s : Snd) (r : Roa) (g : Int), ds = [s.d, r.d, .int g] ∧ s.Ok ∧ r.Ok ∧ 0 ≤ g ∧ g ≤ 1000 ∧ d = .int (widF s r g)
theorem ok_width_at (E : Env1 K mg) : Cl P w K mg base 3 "width_at" (pureC g_width_at) := by
  have nd : (["sender", "road", "gap", "found"] : List Str).Nodup := by decide +kernel
  refine cl_ok (N := ["sender", "road", "gap", "found"]) (ps := ["sender", "road", "gap"]) (E.T.at 43) ⟨rfl, rfl, rfl, nd, rfl, by decide +kernel, by decide +kernel⟩ (fun _ _ _ _ _ _ us hl => match us, hl with | [_, _, _], _ => rfl) ?_ ?_
  · rintro M ds os d os1 ⟨_, s, r, g, rfl, _⟩
    rfl
  · rintro f cdv A outer sh H E0 hr M ds os d os1 ⟨rfl, s, r, g, rfl, hs, hr1, g0, g1, rfl⟩
    refine
    stm_set 3 (ev_callP (ok_all_meanings E) hr (arg_cons (ev_var 0 rfl) (arg_cons (ev_var 1 rfl) (arg_cons (ev_var 2 rfl) arg_nil))) ⟨s, r, g, rfl, hs, hr1, g0, g1, rfl⟩) nd <|
    stm_ret (ev_if (d := .int (widF s r g)) (tst_cmp c_gt (ev_bi b_lenL E.B.len boot_len (arg_cons (ev_var 3 rfl) arg_nil)) ev_int) (fun h1 => ?_) fun h2 => ?_) ⟨rfl, rfl⟩
    · have hne : mensF s r g ≠ [] := fun z => by
        rw [z] at h1
        simp at h1
      have e1 : atI ((mensF s r g).map D.int) (-1) = some (.int ((mensF s r g).getLastD 0)) := by
        refine atI_lastX ?_
        rw [List.getLast?_map]
        cases hq : mensF s r g with
        | nil => exact absurd hq hne
        | cons x xs =>
          rw [List.getLast?_cons, List.getLastD_cons, List.getLastD_eq_getLast?]
          rfl
      have e2 : atI ((mensF s r g).map D.int) 0 = some (.int ((mensF s r g).headD 0)) := by
        refine atI_nat (j := 0) ?_
        cases hq : mensF s r g with
        | nil => exact absurd hq hne
        | cons x xs => rfl
      exact ev_sub (ev_ixL (ev_var 3 rfl) (ev_neg ev_int) e1) (ev_ixL (ev_var 3 rfl) ev_int e2)
    · have hne : mensF s r g = [] := by
        cases hq : mensF s r g with
        | nil => rfl
        | cons x xs =>
          rw [hq] at h2
          simp at h2
          try omega
      refine ev_eq ev_int ?_
      unfold widF
      rw [hne] <;> rfl
def g_sure_numbers : List D → D → Prop := fun ds d => ∃ (s : Snd) (r : Roa) (g : Int), ds = [s.d, r.d, .int g] ∧ s.Ok ∧ r.Ok ∧ 0 ≤ g ∧ g ≤ 1000 ∧ d = .int (sureF s r g)
theorem ok_sure_numbers (E : Env1 K mg) : Cl P w K mg base 7 "sure_numbers" (pureC g_sure_numbers) := by
  have nd : (["sender", "road", "gap", "one"] : List Str).Nodup := by decide +kernel
  refine cl_ok (N := ["sender", "road", "gap", "one"]) (ps := ["sender", "road", "gap"]) (E.T.at 44) ⟨rfl, rfl, rfl, nd, rfl, by decide +kernel, by decide +kernel⟩ (fun _ _ _ _ _ _ us hl => match us, hl with | [_, _, _], _ => rfl) ?_ ?_
  · rintro M ds os d os1 ⟨_, s, r, g, rfl, _⟩
    rfl
  · rintro f cdv A outer sh H E0 hr M ds os d os1 ⟨rfl, s, r, g, rfl, hs, hr1, g0, g1, rfl⟩
    exact
    stm_expr (ev_callP (ok_want_plain E) hr (arg_cons (ev_var 0 rfl) (arg_cons (ev_var 1 rfl) arg_nil)) ⟨s, r, rfl, hs, hr1, rfl⟩) <|
    stm_expr (ev_callP (ok_want E) hr (arg_cons (ev_eq (d := .bl true) (ev_callP (ok_is_number E) hr (arg_cons (ev_var 2 rfl) arg_nil) ⟨_, rfl, rfl⟩) (by simp; omega)) (arg_cons ev_str arg_nil)) ⟨_, rfl, rfl⟩) <|
    stm_ret (ev_add ev_int (ev_bi (b_max (ns := (List.range (g + 1).toNat).map fun i : Nat => widF s r (0 + (i : Int))) rfl (by
      intro z
      have := congrArg List.length z
      rw [List.length_map, List.length_range] at this
      simp at this
      omega)) E.B.max boot_max (arg_cons (ev_lc0 (own := [("one", 3)]) (List.range (g + 1).toNat) (fun i : Nat => .int (0 + (i : Int))) (fun i : Nat => .int (widF s r (0 + (i : Int)))) (wk_rng1 E.B.range (arg_cons (ev_add (ev_var 2 rfl) ev_int) arg_nil) (by omega)) (blkOk_by (by kernel_rfl)) (fun _ _ _ _ _ _ => (tgt_name 3 nd)) (fun x hx => ⟨_, rfl, fun L acc s2 H C cl fp => (ev_callP (ok_width_at E) hr (arg_cons (ev_var 0 rfl) (arg_cons (ev_var 1 rfl) (arg_cons (ev_var 3 rfl) arg_nil))) ⟨s, r, _, rfl, hs, hr1, by omega, by
        have := List.mem_range.mp hx
        omega, rfl⟩)⟩) (by
        rw [List.length_range]
        omega) rfl nd (by rw [List.map_map]; rfl)) arg_nil))) ⟨rfl, rfl⟩
def g_require : List D → D → Prop := fun ds d => ∃ (x : Str) (e : D), ds = [.bl true, .str x, e] ∧ d = .non
theorem ok_require (E : Env1 K mg) : Cl P w K mg base 1 "require" (pureC g_require) := by
  have nd : (["is_fit", "word", "at"] : List Str).Nodup := by decide +kernel
  refine cl_ok (N := ["is_fit", "word", "at"]) (ps := ["is_fit", "word", "at"]) (E.T.at 20) ⟨rfl, rfl, rfl, nd, rfl, by decide +kernel, by decide +kernel⟩ (fun _ _ _ _ _ _ us hl => match us, hl with | [_, _, _], _ => rfl) ?_ ?_
  · rintro M ds os d os1 ⟨_, x, e, rfl, _⟩
    rfl
  · rintro f cdv A outer sh H E0 hr M ds os d os1 ⟨rfl, x, e, rfl, rfl⟩
    exact stm_ifF (tst_eq (tst_not (tst_val (ev_var 0 rfl))) rfl) <| stm_nil ⟨rfl, rfl⟩
def g_lets_book : List D → D → Prop := fun ds d => ∃ (s : Snd) (r : Roa) (e : Ear), ds = [bookD s r e] ∧ s.Ok ∧ r.Ok ∧ e.Ok ∧ d = .bl true
theorem ok_lets_book (E : Env1 K mg) : Cl P w K mg base 5 "lets_book" (pureC g_lets_book) := by
  have nd : (["thing", "faults", "sender", "road", "hearer", "word", "k"] : List Str).Nodup := by decide +kernel
  refine cl_ok (N := ["thing", "faults", "sender", "road", "hearer", "word", "k"]) (ps := ["thing"]) (E.T.at 21) ⟨rfl, rfl, rfl, nd, rfl, by decide +kernel, by decide +kernel⟩ (fun _ _ _ _ _ _ us hl => match us, hl with | [_], _ => rfl) ?_ ?_
  · rintro M ds os d os1 ⟨_, s, r, e, rfl, _⟩
    rfl
  · rintro f cdv A outer sh H E0 hr M ds os d os1 ⟨rfl, s, r, e, rfl, hs, hr1, he, rfl⟩
    refine
    stm_expr (ev_callP (ok_require E) hr (arg_cons (ev_callP (ok_is_tuple_of E) hr (arg_cons (ev_var 0 rfl) (arg_cons ev_int arg_nil)) ⟨_, _, rfl, rfl⟩) (arg_cons ev_str (arg_cons (ev_neg ev_int) arg_nil))) ⟨_, _, rfl, rfl⟩) <|
    stm_asg (ev_var 0 rfl) (tgt_tup rfl (tgts_cons (tgt_name 2 nd) (tgts_cons (tgt_name 3 nd) (tgts_cons (tgt_name 4 nd) tgts_nil))) (fCons_len (fCons_len (fCons_len fNil_len)))) rfl <|
    stm_expr (ev_callP (ok_require E) hr (arg_cons (ev_and (ev_callP (ok_is_tuple_of E) hr (arg_cons (ev_var 2 rfl) (arg_cons ev_int arg_nil)) ⟨_, _, rfl, rfl⟩) fun h2 => (ev_and (ev_callP (ok_is_tuple_of E) hr (arg_cons (ev_var 3 rfl) (arg_cons ev_int arg_nil)) ⟨_, _, rfl, rfl⟩) fun h1 => (ev_one (ev_callP (ok_is_tuple_of E) hr (arg_cons (ev_var 4 rfl) (arg_cons ev_int arg_nil)) ⟨_, _, rfl, rfl⟩)))) (arg_cons ev_str (arg_cons (ev_neg ev_int) arg_nil))) ⟨_, _, rfl, rfl⟩) <|
    stm_set 1 (ev_lst (arg_cons (ev_tup (arg_cons ev_str (arg_cons (ev_callP (ok_sender_fault E) hr (arg_cons (ev_var 2 rfl) arg_nil) ⟨s, rfl, hs, rfl⟩) arg_nil))) (arg_cons (ev_tup (arg_cons ev_str (arg_cons (ev_callP (ok_road_fault E) hr (arg_cons (ev_var 3 rfl) arg_nil) ⟨r, rfl, hr1, rfl⟩) arg_nil))) (arg_cons (ev_tup (arg_cons ev_str (arg_cons (ev_callP (ok_hearer_fault E) hr (arg_cons (ev_var 4 rfl) arg_nil) ⟨e, rfl, he, rfl⟩) arg_nil))) arg_nil)))) nd <|
    stm_for (wk_lst (ev_var 1 rfl)) (tgt_tup rfl (tgts_cons (tgt_name 5 nd) (tgts_cons (tgt_name 6 nd) tgts_nil)) (fCons_len (fCons_len fNil_len)))
      (fun _ δ os2 => os2 = os1 ∧ ∃ l x y, δ = [some (bookD s r e), l, some s.d, some r.d, some e.d, x, y]) ⟨rfl, _, _, _, rfl⟩ ?_ (fun δ os2 ⟨q1, _, _, _, q2⟩ => by
      subst q1 q2
      exact stm_ret ev_bl ⟨rfl, rfl⟩) pn rfl
    rintro i d δ os2 hd ⟨rfl, _, _, _, rfl⟩
    have hm := List.mem_of_getElem? hd
    simp only [List.mem_cons, List.not_mem_nil, or_false] at hm
    rcases hm with rfl | rfl | rfl
    · exact ⟨_, rfl, stm_expr (ev_callP (ok_require E) hr (arg_cons (ev_cmp c_isN (ev_var 6 rfl) ev_non) (arg_cons (ev_var 5 rfl) (arg_cons (ev_var 6 rfl) arg_nil))) ⟨_, _, rfl, rfl⟩) <| stm_nil ⟨rfl, _, _, _, rfl⟩⟩
    · exact ⟨_, rfl, stm_expr (ev_callP (ok_require E) hr (arg_cons (ev_cmp c_isN (ev_var 6 rfl) ev_non) (arg_cons (ev_var 5 rfl) (arg_cons (ev_var 6 rfl) arg_nil))) ⟨_, _, rfl, rfl⟩) <| stm_nil ⟨rfl, _, _, _, rfl⟩⟩
    · exact ⟨_, rfl, stm_expr (ev_callP (ok_require E) hr (arg_cons (ev_cmp c_isN (ev_var 6 rfl) ev_non) (arg_cons (ev_var 5 rfl) (arg_cons (ev_var 6 rfl) arg_nil))) ⟨_, _, rfl, rfl⟩) <| stm_nil ⟨rfl, _, _, _, rfl⟩⟩
end
end PW
namespace PW
open PySem PySem.Spec PyProof.Rows L2
/-- what is walked, told of beside the objects M -/
def itOkS (M : List Addr) (os : List MO) (J : It) (ds : List D) (H0 : Hp) : Prop := ∀ (D : Addr) (o : MO), H0 D = none → ∀ (i : Nat) (H : Hp), Keep (D :: M) H0 H → Sok (D :: M) (o :: os) H →
  (∀ d, ds[i]? = some d → J.go i H ∧ ∀ x H', J.yld i H x H' → Ext H H' ∧ R (D :: M) H' x d) ∧ (i = ds.length → J.stop i H)
theorem itOkS_of {M : List Addr} {os : List MO} {J : It} {ds : List D} {H0 : Hp} (ok : itOk M J ds H0) : itOkS M os J ds H0 := fun D o hD i H k s => ok (D :: M) (fun a ha hn z => by
  rcases List.mem_cons.mp z with z | z
  · exact ha (z ▸ hD)
  · exact hn z) (fun a h => List.mem_cons_of_mem _ h) i H k s.dom
theorem wipe_idem (vs : List Nat) (σ : L2.St) : L2.wipe (L2.wipe σ vs) vs = L2.wipe σ vs := by
  have gen : ∀ (us ws : List Nat) (τ : L2.St), (∀ j ∈ us, j ∈ ws) → L2.wipe (L2.wipe τ us) ws = L2.wipe τ ws := by
    intro us
    induction us with
    | nil => intro ws τ _; rfl
    | cons u us ih =>
      intro ws τ h
      show L2.wipe ((L2.wipe τ us).set u none) ws = L2.wipe τ ws
      rw [wipe_set (h u List.mem_cons_self), ih ws τ fun j hj => h j (List.mem_cons_of_mem _ hj)]
  exact gen vs vs σ fun j h => h
section
variable {X : Cx} {M : List Addr} {os os1 os2 os3 : List MO} {δ δ' : List (Option D)} {e tg iter kx vx : Expr} {pos p : Pos}
theorem dc_data {α ι : Type} (Mi : ι → List Addr) (oi : ι → List MO) {ifs : List Expr} {scope : Scope} {vs sl : List Nat} {φ} (xs : List α) (enc : α → D) (p : α → Bool) (key : α → Int) (val : α → D) (hz : xs.length ≤ 100000) (hv : ∀ j ∈ sl, j ∈ vs) (nd : ((xs.filter p).map key).Nodup)
    (hb : ∀ x ∈ xs, ∃ δ2, φ (enc x) (wipeD δ vs) = some δ2 ∧ ∀ (n : ι) (D : Addr) (o : MO), (∀ s H C cl fp, Tsts (Cx.bk X scope s H C cl fp) (D :: Mi n) (o :: oi n) δ2 ifs (p x) (o :: oi n)) ∧
      (p x = true → ∀ s H C cl fp, Ev (Cx.bk X scope s H C cl fp) (D :: Mi n) (o :: oi n) δ2 kx (.int (key x)) (o :: oi n) ∧ Ev (Cx.bk X scope s H C cl fp) (D :: Mi n) (o :: oi n) δ2 vx (val x) (o :: oi n))) :
    ∃ (g : TG) (tt : TT) (tk tv : TE), ((∀ n L s H C cl fp, Tgt (Cx.bk X scope s H C cl fp) (L :: Mi n) tg sl φ) → ∀ s H C cl fp, PG (Cx.bk X scope s H C cl fp) tg g) ∧ (∀ s H C cl fp, PTs (Cx.bk X scope s H C cl fp) ifs tt) ∧ (∀ s H C cl fp, PE (Cx.bk X scope s H C cl fp) kx tk) ∧ (∀ s H C cl fp, PE (Cx.bk X scope s H C cl fp) vx tv) ∧
      ∀ (n : ι) σ H1 (Q : VK) J, Sok (Mi n) (oi n) H1 → EnvR (Mi n) H1 σ δ → itOkS (Mi n) (oi n) J (xs.map enc) H1 → (∀ D H', H1 D = none → Keep (Mi n) H1 H' → Sok (Mi n) (oi n) H' → R (Mi n) H' (.ref D) (.dic ((xs.filter p).map fun x => Sum.inl (key x)) ((xs.filter p).map val)) → Q (.ref D) H') →
        ∀ D, H1 D = none → ∃ W : Nat → Nat → Hp → Prop, (∃ m, W 0 m (upd H1 D (.dK []))) ∧ ∀ i m H, W i m H → (J.stop i H ∧ Q (.ref D) H) ∨ (J.go i H ∧ ∃ Nx : Hp → Prop, (∀ H', Nx H' → ∃ m', m' < m ∧ W (i + 1) m' H') ∧
          ∀ x H', J.yld i H x H' → g x (L2.wipe σ vs) H' fun σ2 H2 => L2.wipe σ2 vs = L2.wipe σ vs ∧ tt σ2 H2 fun b H3 =>
            if b = true then tk σ2 H3 fun y H4 => tv σ2 H4 fun z H5 => ∃ kvs k, y = kV k ∧ H5 D = some (.dK kvs) ∧ kvs.length < sizeLine ∧ Nx (upd H5 D (.dK (putK kvs k z))) else Nx H3) := by
  refine ⟨fun w σ H Q => ∃ n L, gD (L :: Mi n) sl φ w σ H Q, fun σ H Q => ∃ n x δ2 L o, x ∈ xs ∧ φ (enc x) (wipeD δ vs) = some δ2 ∧ tT (L :: Mi n) (o :: oi n) δ2 (p x) (o :: oi n) σ H Q,
    fun σ H Q => ∃ n x δ2 L o, x ∈ xs ∧ p x = true ∧ φ (enc x) (wipeD δ vs) = some δ2 ∧ tE (L :: Mi n) (o :: oi n) δ2 (.int (key x)) (o :: oi n) σ H Q,
    fun σ H Q => ∃ n x δ2 L o, x ∈ xs ∧ p x = true ∧ φ (enc x) (wipeD δ vs) = some δ2 ∧ tE (L :: Mi n) (o :: oi n) δ2 (val x) (o :: oi n) σ H Q,
    fun hg s H C cl fp => ⟨fun pins s1 σ H1 w u Q I r ⟨n, L, h⟩ => (hg n L s H C cl fp).run pins s1 σ H1 w u Q I r h⟩, fun s H C cl fp => ⟨fun pins s1 σ H1 Q I ⟨n, x, δ2, L, o, hx, hφ, h⟩ => ?_⟩, fun s H C cl fp => ⟨fun pins s1 σ H1 Q I ⟨n, x, δ2, L, o, hx, hp, hφ, h⟩ => ?_⟩, fun s H C cl fp => ⟨fun pins s1 σ H1 Q I ⟨n, x, δ2, L, o, hx, hp, hφ, h⟩ => ?_⟩, ?_⟩
  · obtain ⟨δ3, e3, q⟩ := hb x hx
    rw [hφ] at e3
    cases e3
    exact ((q n L o).1 s H C cl fp).run pins s1 σ H1 Q I h
  · obtain ⟨δ3, e3, q⟩ := hb x hx
    rw [hφ] at e3
    cases e3
    exact ((q n L o).2 hp s H C cl fp).1.run pins s1 σ H1 Q I h
  · obtain ⟨δ3, e3, q⟩ := hb x hx
    rw [hφ] at e3
    cases e3
    exact ((q n L o).2 hp s H C cl fp).2.run pins s1 σ H1 Q I h
  · intro n0 σ H1 Q J s1 en ok fin D hD
    have ex := Ext.new (o := HO.dK []) hD
    have okL := ok D
    have sL : Sok (D :: Mi n0) (.dic [] [] :: oi n0) (upd H1 D (.dK [])) := s1.more hD ex ⟨[], upd_same, rfl, .nil⟩
    have enL : EnvR (D :: Mi n0) (upd H1 D (.dK [])) σ δ := (en.more hD).keep ex.keep
    refine ⟨fun i m H2 => m = xs.length - i ∧ i ≤ xs.length ∧ Keep (D :: Mi n0) (upd H1 D (.dK [])) H2 ∧ Sok (D :: Mi n0) (.dic (((xs.take i).filter p).map fun x => Sum.inl (key x)) (((xs.take i).filter p).map val) :: oi n0) H2, ⟨xs.length, by simp, Nat.zero_le _, .refl, by simpa using sL⟩, ?_⟩
    rintro i m H2 ⟨rfl, hi, k2, s2⟩
    have k0 : Keep (D :: Mi n0) H1 H2 := Keep.trans ex.keep k2
    obtain ⟨go, stop⟩ := okL _ hD i H2 k0 s2
    by_cases hl : i < xs.length
    · have hx : xs[i] ∈ xs := List.getElem_mem hl
      have hdx : (xs.map enc)[i]? = some (enc xs[i]) := by rw [List.getElem?_map, List.getElem?_eq_getElem hl] <;> rfl
      obtain ⟨g1, g2⟩ := go (enc xs[i]) hdx
      obtain ⟨δ2, q1, q2⟩ := hb xs[i] hx
      have htk : xs.take (i + 1) = xs.take i ++ [xs[i]] := by rw [List.take_add_one, List.getElem?_eq_getElem hl] <;> rfl
      refine .inr ⟨g1, fun H3 => Keep (D :: Mi n0) (upd H1 D (.dK [])) H3 ∧ Sok (D :: Mi n0) (.dic (((xs.take (i + 1)).filter p).map fun x => Sum.inl (key x)) (((xs.take (i + 1)).filter p).map val) :: oi n0) H3, fun H3 w => ⟨xs.length - (i + 1), by omega, rfl, hl, w⟩, fun x H3 y => ?_⟩
      obtain ⟨x1, x2⟩ := g2 x H3 y
      have en3 : EnvR (D :: Mi n0) H3 (L2.wipe σ vs) (wipeD δ vs) := ((enL.keep k2).keep x1.keep).wipe vs
      refine ⟨n0, D, enc xs[i], wipeD δ vs, δ2, x2, en3, q1, fun σ4 e4 w4 => ⟨by rw [w4 vs hv, wipe_idem], n0, xs[i], δ2, D, _, hx, q1, s2.ext x1, e4, fun H4 k4 s4 => ?_⟩⟩
      cases hp : p xs[i] with
      | false =>
        refine iteF ⟨(k2.trans x1.keep).trans k4, ?_⟩
        rw [htk, List.filter_append, List.filter_cons, hp, List.filter_nil]
        simpa using s4
      | true =>
        refine iteT ⟨n0, xs[i], δ2, D, _, hx, hp, q1, s4, e4.keep k4, fun y4 H5 k5 s5 r5 => ⟨n0, xs[i], δ2, D, _, hx, hp, q1, s5, (e4.keep k4).keep k5, fun z4 H6 k6 s6 r6 => ?_⟩⟩
        obtain ⟨kvs, h6, hk6, hx6⟩ := s6.at_ 0 D _ rfl rfl
        have hlen : kvs.length ≤ xs.length := by
          have e1 : kvs.length = ((xs.take i).filter p).length := by
            have := congrArg List.length hk6
            simpa using this
          rw [e1]
          refine Nat.le_trans (List.length_filter_le _ _) ?_
          rw [List.length_take]
          omega
        have hnew : (Sum.inl (key xs[i]) : Key) ∉ kvs.map (·.1) := fun hm => by
          rw [hk6] at hm
          obtain ⟨x', hx', e'⟩ := List.mem_map.mp hm
          have e2 : key x' = key xs[i] := Sum.inl.inj e'
          have split : xs.filter p = ((xs.take i).filter p) ++ ((xs.drop i).filter p) := by rw [← List.filter_append, List.take_append_drop]
          rw [split, List.map_append, List.nodup_append] at nd
          refine nd.2.2 (key x') (List.mem_map.mpr ⟨x', hx', rfl⟩) (key xs[i]) (List.mem_map.mpr ⟨xs[i], ?_, rfl⟩) e2
          rw [List.mem_filter]
          refine ⟨?_, hp⟩
          rw [List.drop_eq_getElem_cons hl]
          exact List.mem_cons_self
        have kS : Keep (D :: Mi n0) H6 (upd H6 D (.dK (putK kvs (.inl (key xs[i])) z4))) := Keep.set List.mem_cons_self
        refine ⟨kvs, .inl (key xs[i]), r5.key, h6, by rw [sizeLine_eq]; omega, ((((k2.trans x1.keep).trans k4).trans k5).trans k6).trans kS, ?_⟩
        have e6 : (xs.take (i + 1)).filter p = (xs.take i).filter p ++ [xs[i]] := by rw [htk, List.filter_append, List.filter_cons, hp, List.filter_nil] <;> rfl
        rw [e6, List.map_append, List.map_append]
        exact s6.put (i := 0) (a := D) (o := .dic (((xs.take i).filter p).map (fun x => Sum.inl (key x)) ++ [Sum.inl (key xs[i])]) (((xs.take i).filter p).map val ++ [val xs[i]])) rfl kS (fun b hb _ => upd_ne hb)
          ⟨putK kvs (.inl (key xs[i])) z4, upd_same, by rw [putK_new hnew, List.map_append, hk6] <;> rfl, by
            have e9 : (putK kvs (.inl (key xs[i])) z4).map (·.2) = kvs.map (·.2) ++ [z4] := by rw [putK_new hnew, List.map_append] <;> rfl
            rw [e9]
            exact (hx6.append (.cons r6 .nil)).keep kS⟩
    · have e : i = xs.length := by omega
      subst e
      rw [List.take_length] at s2
      obtain ⟨kvs, h6, hk6, hx6⟩ := s2.at_ 0 D _ rfl rfl
      exact .inl ⟨stop (by rw [List.length_map]), fin D H2 hD (Keep.fill hD k2) s2.less (.dic h6 (not_mem_dom s1.dom hD) hk6 (hx6.sub fun b _ n z => n (List.mem_cons_of_mem _ z)))⟩
/-- {k: v for tg in iter}, the keys ints, all distinct -/
theorem ev_dc0 {α : Type} {scope : Scope} {own : List (Str × Nat)} {sl : List Nat} {φ} (xs : List α) (enc : α → D) (key : α → Int) (val : α → D) (hi : Wk X M os δ tg iter (xs.map enc) os1) (ok : BlkOk X.N X.env.scope scope own)
    (hg : ∀ L s H C cl fp, Tgt (Cx.bk X scope s H C cl fp) (L :: M) tg sl φ) (hb : ∀ x ∈ xs, ∃ δ2, φ (enc x) (wipeD δ (own.map (·.2))) = some δ2 ∧ ∀ (D : Addr) (o : MO) s H C cl fp, Ev (Cx.bk X scope s H C cl fp) (D :: M) (o :: os1) δ2 kx (.int (key x)) (o :: os1) ∧ Ev (Cx.bk X scope s H C cl fp) (D :: M) (o :: os1) δ2 vx (val x) (o :: os1))
    (nd : (xs.map key).Nodup) (hz : xs.length ≤ 100000) (hc : X.calm = true) (hN : X.N.Nodup) (hv : ∀ j ∈ sl, j ∈ own.map (·.2) := by decide) (hs : ∀ x, foldedSetIterable iter X.env x = pure x := by intro _; rfl) :
    Ev X M os δ (.DictComp kx vx [⟨tg, iter, [], 0⟩] scope pos) (.dic (xs.map fun x => Sum.inl (key x)) (xs.map val)) os1 := by
  obtain ⟨g, tt, tk, tv, h1, h2, h3, h4, h5⟩ := dc_data (X := X) (fun _ : Unit => M) (fun _ : Unit => os1) (δ := δ) (tg := tg) (kx := kx) (vx := vx) (ifs := []) (scope := scope) xs enc (fun _ => true) key val hz hv (by rw [filter_true]; exact nd) (fun x hx => by
    obtain ⟨δ2, e1, e2⟩ := hb x hx
    exact ⟨δ2, e1, fun _ D o => ⟨fun s H C cl fp => tsts_nil, fun _ => e2 D o⟩⟩)
  refine pe_imp (pe_dc hc hN hi ok (h1 fun _ => hg) h2 h3 h4 hs) fun σ H Q ⟨s, en, q⟩ => ⟨s, en, fun J H1 k1 s1 okJ => h5 () σ H1 Q J s1 (en.keep k1) (itOkS_of okJ) fun D H' _ k2 s2 r2 => q _ _ (k1.trans k2) s2 ?_⟩
  rw [filter_true] at r2
  exact r2
/-- {k: v for k, v in d.items() if ..}, d a name: the block reads plain values alone -/
theorem ev_dcItems {α : Type} {ifs : List Expr} {scope : Scope} {own : List (Str × Nat)} {sl : List Nat} {φ : D → List (Option D) → Option (List (Option D))} {δf : List (Option D)} {elts : List Expr} {kk : Nat} {tpos apos cpos np : Pos} {x : Str} (i : Nat) (xs : List α) (p : α → Bool) (key : α → Int) (val : α → D)
    (hδ : δ[i]? = some (some (.dic (xs.map fun x => Sum.inl (key x)) (xs.map val)))) (hfl : δf.length = δ.length) (hf : ∀ (k : Nat) d, δf[k]? = some (some d) → flatD d = true ∧ δ[k]? = some (some d)) (hval : ∀ x ∈ xs, flatD (val x) = true) (ok : BlkOk X.N X.env.scope scope own)
    (hg : ∀ M' s H C cl fp, Tgt (Cx.bk X scope s H C cl fp) M' (.Tuple elts kk tpos) sl φ)
    (hb : ∀ x ∈ xs, ∃ δ2, φ (.tup [.int (key x), val x]) (wipeD δf (own.map (·.2))) = some δ2 ∧ ∀ (M' : List Addr) (os' : List MO), (∀ s H C cl fp, Tsts (Cx.bk X scope s H C cl fp) M' os' δ2 ifs (p x) os') ∧
      (p x = true → ∀ s H C cl fp, Ev (Cx.bk X scope s H C cl fp) M' os' δ2 kx (.int (key x)) os' ∧ Ev (Cx.bk X scope s H C cl fp) M' os' δ2 vx (val x) os'))
    (nd : (xs.map key).Nodup) (hz : xs.length ≤ 100000) (hc : X.calm = true) (hN : X.N.Nodup) (hNi : X.N[i]? = some x := by rfl) (hvs : Vis X.env.scope x := by first | exact Or.inl rfl | exact Or.inr (Or.inl rfl) | exact Or.inr (Or.inr rfl)) (hd : (x == ("__debug__" : Str)) = false := by decide) (hcd : (x == ("__classdict__" : Str)) = false := by decide)
    (hbase : attributeBase (.Name x np) "items" X.env (eval (.Name x np) X.env) = eval (.Name x np) X.env := by rfl) (hline : (apos.endLine == cpos.line) = true := by rfl) (hv : ∀ j ∈ sl, j ∈ own.map (·.2) := by decide)
    (hs : ∀ y, foldedSetIterable (.Call (.Attribute (.Name x np) "items" apos) [] [] cpos) X.env y = pure y := by intro _; rfl) :
    Ev X M os δ (.DictComp kx vx [⟨.Tuple elts kk tpos, .Call (.Attribute (.Name x np) "items" apos) [] [] cpos, ifs, 0⟩] scope pos) (.dic ((xs.filter p).map fun x => Sum.inl (key x)) ((xs.filter p).map val)) os := by
  obtain ⟨g, tt, tk, tv, h1, h2, h3, h4, h5⟩ := dc_data (X := X) (fun q : Addr × MO => [q.1]) (fun q : Addr × MO => [q.2]) (δ := δf) (tg := .Tuple elts kk tpos) (kx := kx) (vx := vx) (ifs := ifs) (scope := scope) xs (fun x => .tup [.int (key x), val x]) p key val hz hv
    (nd.sublist ((List.filter_sublist (p := p) (l := xs)).map key)) (fun x hx => by
      obtain ⟨δ2, e1, e2⟩ := hb x hx
      exact ⟨δ2, e1, fun n D o => e2 _ _⟩)
  refine pe_imp (pe_lock (pe_dc hc hN (pi_items (pe_var hNi hvs hd hcd) hbase hline) ok (h1 fun n L => hg _) h2 h3 h4 hs)) fun σ H Q ⟨s, en, q⟩ => ?_
  obtain ⟨v, hσ, rv⟩ := en.at_ i _ hδ
  cases rv with
  | @dic dA kvs _ _ hd1 hm hk hx =>
    refine ⟨dA, .dK kvs, hd1, True.intro, fun od => ⟨.ref dA, hσ, dA, od, kvs, rfl, upd_same, fun D hD => ?_⟩⟩
    have hflatV : kvs.map (·.2) = (xs.map val).map toV := (RA.flat (by
      rw [List.all_map, List.all_eq_true]
      exact hval) hx).1
    have hne : D ≠ dA := fun z => by
      rw [z, upd_same] at hD
      cases hD
    have hDH : H D = none := by rwa [upd_ne hne] at hD
    refine h5 (dA, .opq (.frz od (.dK kvs))) σ _ (fun v H' => H' dA = some (.frz od (.dK kvs)) ∧ Q v (upd H' dA (.dK kvs))) (Iti dA od kvs) ⟨rfl, by simp, fun j a o ha ho => ?_⟩ ⟨hfl.trans en.len, fun k d hk' => ?_⟩ (fun D' o hD' j H2 k2 s2 => ?_) (fun D' H2 hD' k2 s2 r2 => ?_) D hD
    · cases j with
      | zero =>
        cases ha
        cases ho
        exact upd_same
      | succ j => cases ha
    · obtain ⟨fd, hd2⟩ := hf k d hk'
      obtain ⟨v, hv1, hv2⟩ := en.at_ k d hd2
      refine ⟨v, hv1, ?_⟩
      cases hv2 <;> first | exact .non | exact .bl _ | exact .int _ | exact .str _ | exact .ty _ | (cases fd)
    · have hfr : H2 dA = some (.frz od (.dK kvs)) := s2.at_ 1 dA _ rfl rfl
      have hlen : kvs.length = xs.length := by
        have := congrArg List.length hk
        simpa using this
      refine ⟨fun d hd' => ?_, fun hj => ⟨hfr, by rw [hlen]; rw [List.length_map] at hj; omega⟩⟩
      rw [List.getElem?_map] at hd'
      obtain ⟨y, hy, rfl⟩ := Option.map_eq_some_iff.mp hd'
      have hjl : j < xs.length := (List.getElem?_eq_some_iff.mp hy).1
      have hkv : kvs[j]? = some (.inl (key y), toV (val y)) := by
        have a1 : (kvs.map (·.1))[j]? = some (.inl (key y)) := by rw [hk, List.getElem?_map, hy] <;> rfl
        have a2 : (kvs.map (·.2))[j]? = some (toV (val y)) := by rw [hflatV, List.getElem?_map, List.getElem?_map, hy] <;> rfl
        rw [List.getElem?_map] at a1 a2
        have hj2 : j < kvs.length := by omega
        rw [List.getElem?_eq_getElem hj2] at a1 a2 ⊢
        exact congrArg some (Prod.ext (Option.some.inj a1) (Option.some.inj a2))
      refine ⟨⟨hfr, by omega⟩, fun w H' ⟨T, kq, vq, e1, e2, e3, e4⟩ => ?_⟩
      rw [hkv] at e1
      cases e1
      subst e2 e4
      have exT := Ext.new (o := HO.tup [kV (.inl (key y)), toV (val y)]) e3
      refine ⟨exT, .tup upd_same (fun hm2 => (s2.dom T hm2) e3) (.cons (.int _) (.cons ?_ .nil))⟩
      have hfv := hval y (List.mem_of_getElem? hy)
      cases hvy : val y with
      | non => exact .non
      | bl b => exact .bl b
      | int n => exact .int n
      | str z => exact .str z
      | _ => rw [hvy] at hfv; cases hfv
    · have hfr : H2 dA = some (.frz od (.dK kvs)) := s2.at_ 0 dA _ rfl rfl
      have eAll : Ext H (upd H2 dA (.dK kvs)) := fun a o ha => by
        rcases Classical.em (a = dA) with z | z
        · subst z
          rw [upd_same, ← hd1, ha]
        · rw [upd_ne z]
          exact k2.old a o (fun hm2 => z (List.mem_singleton.mp hm2)) (by rw [upd_ne z]; exact ha)
      refine ⟨hfr, q _ _ eAll.keep (s.ext eAll) ?_⟩
      cases r2 with
      | @dic q1 kvs2 _ _ hq1 hm2 hk2 hx2 =>
        have hne2 : D' ≠ dA := fun z => hm2 (by rw [z]; exact List.mem_singleton.mpr rfl)
        have hfl2 := RA.flat (by
          rw [List.all_map, List.all_eq_true]
          exact fun y hy => hval y (List.mem_filter.mp hy).1) hx2
        have hD0 : H D' = none := by rwa [upd_ne hne2] at hD'
        have hfr2 : ∀ (l : List PW.D), (l.all flatD) = true → ∀ (N : List Addr) (G : Hp), RA N G (l.map toV) l := fun l hl N G => by
          induction l with
          | nil => exact .nil
          | cons y l ih =>
            rw [List.all_cons, Bool.and_eq_true] at hl
            refine .cons ?_ (ih hl.2)
            cases y with
            | non => exact .non
            | bl b => exact .bl b
            | int n => exact .int n
            | str z => exact .str z
            | _ => cases hl.1
        refine .dic (by rw [upd_ne hne2]; exact hq1) (not_mem_dom s.dom hD0) hk2 ?_
        rw [hfl2.1]
        exact hfr2 _ (by
          rw [List.all_map, List.all_eq_true]
          exact fun y hy => hval y (List.mem_filter.mp hy).1) _ _
end
end PW
namespace PW
open PySem PySem.Spec PyProof.Rows L2
section
variable {X : Cx} {M : List Addr} {os os1 os2 os3 : List MO} {δ : List (Option D)} {a b c e : Expr} {pos p : Pos} {d : D}
theorem stm_env {X : Cx} {M : List Addr} {os : List MO} {δ : List (Option D)} {rest : List Stmt} {k : Kt} (δ' : List (Option D)) (h : δ = δ') (r : Stm X M os δ' rest k) : Stm X M os δ rest k := h ▸ r
theorem op_repT1 : OpR X (binaryOp .Mult) (fun x y H Q => ∃ l xs, x = .ref l ∧ y = .int 1 ∧ SqT X.K H l xs ∧ Q (.ref l) H) := by
  intro pins s σ H x y v u Q I rx ry h
  obtain ⟨l, xs, rfl, rfl, hT, q⟩ := h
  cases rx
  obtain ⟨t, rfl⟩ := ry
  obtain ⟨its, r, ⟨⟨cls, dd, data, sl⟩, ho, hc, n, hd⟩, hs⟩ := I.tuple hT
  simp only at hc hd
  subst hc hd
  refine wpAny_binaryOp_repeat_ref (T := "tuple") (U := "int") (by decide) ⟨_, ho, rfl⟩ (fun s' => typeIs_int s' 1 t) noFill_tuple_mul F.fills_int_mul F.slot_int_rmul repeat_tuple F.slot_int_index.lookup
    (call_meets F.slot_int_rmul (typeIs_int s 1 t) F.entry_int_rmul (F.args_int_rmul_2 _ _) (int_rmul_tuple 1 t l its.toArray n dd sl)
      ⟨ho, rfl, ⟨_, ho, rfl⟩, call_meets F.slot_tuple_mul ⟨_, ho, rfl⟩ F.entry_tuple_mul (F.args_tuple_mul_2 _ _) (tuple_mul1 l its.toArray n dd sl t) ⟨ho, ?_⟩⟩)
  exact ⟨.ref l, H, I, rfl, q⟩
theorem RA.rep {H : Hp} {vs : List V} {ds : List D} (h : RA M H vs ds) : ∀ n : Nat, RA M H (List.replicate n vs).flatten (List.replicate n ds).flatten
  | 0 => .nil
  | n + 1 => by
    rw [List.replicate_succ, List.replicate_succ, List.flatten_cons, List.flatten_cons]
    exact h.append (RA.rep h n)
theorem flat1 (n : Nat) (d : D) : (List.replicate n [d]).flatten = List.replicate n d := by
  induction n with
  | zero => rfl
  | succ n ih => rw [List.replicate_succ, List.replicate_succ, List.flatten_cons, ih] <;> rfl
/-- (x,) * n -/
theorem ev_rep {i : Int} (ha : Ev X M os δ a (.tup [d]) os1) (hb : Ev X M os1 δ b (.int i) os2) (h1 : 1 ≤ i) (h2 : i ≤ 1000) : Ev X M os δ (.BinOp a .Mult b pos) (.tup (List.replicate i.toNat d)) os2 := by
  rcases Classical.em (i = 1) with z | z
  · subst z
    refine pe_imp (pe_op op_repT1 ha hb) fun σ H Q ⟨s, en, kq⟩ => ⟨s, en, fun v H1 k1 s1 r1 => ⟨s1, en.keep k1, fun u H2 k2 s2 r2 => ?_⟩⟩
    cases r2
    cases r1 with
    | @tup l xs _ hq hm hx => exact ⟨l, xs, rfl, rfl, .inl (.of (k2.old _ _ hm hq)), kq _ _ (k1.trans k2) s2 (.tup (k2.old _ _ hm hq) hm (hx.keep k2))⟩
  · refine pe_imp (pe_op op_repT ha hb) fun σ H Q ⟨s, en, kq⟩ => ⟨s, en, fun v H1 k1 s1 r1 => ⟨s1, en.keep k1, fun u H2 k2 s2 r2 => ?_⟩⟩
    cases r2
    cases r1 with
    | @tup l xs _ hq hm hx =>
      have hl := hx.length
      refine ⟨l, i, xs, rfl, rfl, .inl (.of (k2.old _ _ hm hq)), fun z => (by rw [z] at hl; cases hl), by omega, h2, by rw [hl]; simp, fun p hp => ?_⟩
      have ex := Ext.new (o := HO.tup (List.replicate i.toNat xs).flatten) hp
      refine kq _ _ ((k1.trans k2).trans ex.keep) (s2.ext ex) ?_
      rw [← flat1]
      exact new_tup s2 hp ((hx.keep k2).rep _)
theorem mergeK_nd : ∀ {kvs acc : List (Key × V)}, ((acc ++ kvs).map (·.1)).Nodup → mergeK acc kvs = acc ++ kvs
  | [], acc, _ => by rw [List.append_nil] <;> rfl
  | p :: kvs, acc, h => by
    have e : putK acc p.1 p.2 = acc ++ [p] := by
      refine L2.putK_new _ ?_
      cases hv : valV acc p.1 with
      | none => rfl
      | some v =>
        exfalso
        have h2 : (valV acc p.1).isSome = true := by rw [hv] <;> rfl
        rw [valV_some, hasK_iff] at h2
        rw [List.map_append, List.map_cons, List.nodup_append] at h
        exact h.2.2 p.1 h2 p.1 List.mem_cons_self rfl
    show mergeK (putK acc p.1 p.2) kvs = _
    rw [e, mergeK_nd (by simpa using h)]
    simp
/-- dict([(k, v), ..]), the keys ints, all distinct -/
theorem b_dictP {α : Type} (xs : List α) (key : α → Int) (val : α → D) (hc : X.calm = true) (nd : (xs.map key).Nodup) : Blt X M os (.type "dict") [.lst (xs.map fun x => .tup [.int (key x), val x])] (.dic (xs.map fun x => Sum.inl (key x)) (xs.map val)) := ⟨_, call_dictP hc, fun vs H Q s r q => by
  obtain ⟨v, ev, r1⟩ := r.one
  subst ev
  cases r1 with
  | @lst a ys _ h1 hm hx =>
    have gen : ∀ (zs : List α) (ys : List V), RA M H ys (zs.map fun x => .tup [.int (key x), val x]) → ∃ (ps : List Addr) (kvs : List (Key × V)), ys = ps.map V.ref ∧ Paired (fun p kv => SqT X.K H p [kV kv.1, kv.2]) ps kvs ∧ kvs.map (·.1) = zs.map (fun x => Sum.inl (key x)) ∧ RA M H (kvs.map (·.2)) (zs.map val) := by
      intro zs
      induction zs with
      | nil =>
        intro ys h
        cases h
        exact ⟨[], [], rfl, .nil, rfl, .nil⟩
      | cons z zs ih =>
        intro ys h
        cases h with
        | cons h1 h2 =>
          obtain ⟨ps, kvs, e1, e2, e3, e4⟩ := ih _ h2
          cases h1 with
          | @tup p us _ g1 g2 g3 =>
            obtain ⟨v1, v2, e5, r5, r6⟩ := g3.two
            subst e5
            refine ⟨p :: ps, (Sum.inl (key z), v2) :: kvs, by rw [e1] <;> rfl, .cons (.inl (.of ?_)) e2, by rw [List.map_cons, e3] <;> rfl, .cons r6 e4⟩
            rw [← r5.key]
            exact g1
    obtain ⟨ps, kvs, e1, e2, e3, e4⟩ := gen xs ys hx
    subst e1
    refine ⟨a, ps, kvs, rfl, .inl (.of h1), e2, fun p hp => ?_⟩
    have ndk : (kvs.map (·.1)).Nodup := by
      rw [e3, show (xs.map fun x => (Sum.inl (key x) : Key)) = (xs.map key).map Sum.inl by rw [List.map_map] <;> rfl]
      exact nd.map _ fun a b h z => h (Sum.inl.inj z)
    rw [mergeK_nd (by rwa [List.nil_append]), List.nil_append]
    have ex := Ext.new (o := HO.dK kvs) hp
    exact q _ _ ex (.dic upd_same (not_mem_dom s.dom hp) e3 (e4.keep ex.keep))⟩
end
end PW
namespace PW
open PySem PySem.Spec PyProof.Rows L2
/-! ### the ear -/
structure Opn where
  num : Int
  op : Int
  hd : Int
  tx : List (Option Int)
  rk : Int
def oiD : Option Int → D
  | none => .non
  | some i => .int i
def txD (tx : List (Option Int)) : D := .tup (tx.map oiD)
def Opn.d (o : Opn) : D := .tup [.int o.num, .int o.op, .int o.hd, txD o.tx, .int o.rk]
def opsD (l : List Opn) : D := .lst (l.map Opn.d)
def remD (l : List (Int × Int)) : D := .dic (l.map fun q => Sum.inl q.1) (l.map fun q => .int q.2)
structure OOk (n : Int) (l : List Opn) : Prop where
  len : l.length ≤ 60
  tx : ∀ o ∈ l, o.tx.length = n.toNat
  rk : ∀ o ∈ l, 0 ≤ o.rk ∧ o.rk ≤ 60
structure ROk (l : List (Int × Int)) : Prop where
  len : l.length ≤ 60
  nd : (l.map (·.1)).Nodup
def ixN' (l : List Opn) (n : Int) : List (Opn × Nat) := l.zipIdx.filter fun q => decide (q.1.num = n)
def indexOf (l : List Opn) (n : Int) : Option Nat := ((ixN' l n).map (·.2)).head?
def onD : Option Nat → D
  | none => .non
  | some i => .int (i : Int)
theorem zip_mem {α : Type} {l : List α} {q : α × Nat} (h : q ∈ l.zipIdx) : l[q.2]? = some q.1 := by
  have := List.mk_mem_zipIdx_iff_getElem?.mp (show (q.1, q.2) ∈ l.zipIdx from h)
  exact this
theorem indexOf_lt {l : List Opn} {n : Int} {k : Nat} (h : indexOf l n = some k) : ∃ o, l[k]? = some o ∧ o ∈ l := by
  unfold indexOf at h
  have h1 := List.mem_of_mem_head? h
  obtain ⟨q, h2, h3⟩ := List.mem_map.mp h1
  have h4 := zip_mem (List.mem_filter.mp h2).1
  rw [h3] at h4
  exact ⟨q.1, h4, List.mem_of_getElem? h4⟩
def rkL (l : List Opn) : List (List Int) := l.zipIdx.map fun q => [q.1.rk, (q.2 : Int)]
def dropIx (l : List Opn) (rule : Str) : Nat := if rule = "eldest" then 0 else (((lsort (dd (rkL l))).headD []).getD 1 0).toNat
theorem lsort_mem {xs : List (List Int)} {x : List Int} : x ∈ lsort xs ↔ x ∈ xs := by
  unfold lsort
  exact (List.mergeSort_perm xs _).mem_iff
theorem drop_head {l : List Opn} {rule : Str} (hl : l ≠ []) (hr : rule ≠ "eldest") : ∃ r : Int, (lsort (dd (rkL l))).head? = some [r, (dropIx l rule : Int)] ∧ dropIx l rule < l.length := by
  unfold dropIx
  rw [if_neg hr]
  cases hq : lsort (dd (rkL l)) with
  | nil =>
    exfalso
    obtain ⟨o, l', rfl⟩ := List.exists_cons_of_ne_nil hl
    have h1 : [o.rk, (0 : Int)] ∈ rkL (o :: l') := by
      unfold rkL
      rw [List.zipIdx_cons, List.map_cons]
      exact List.mem_cons_self
    have h2 := lsort_mem.mpr (dd_mem.mpr h1)
    rw [hq] at h2
    cases h2
  | cons x xs =>
    have h1 : x ∈ rkL l := dd_mem.mp (lsort_mem.mp (by rw [hq]; exact List.mem_cons_self))
    unfold rkL at h1
    obtain ⟨q, h2, h3⟩ := List.mem_map.mp h1
    have h4 := zip_mem h2
    subst h3
    exact ⟨q.1.rk, rfl, (List.getElem?_eq_some_iff.mp h4).1⟩
theorem drop_lt {l : List Opn} {rule : Str} (hl : l ≠ []) : dropIx l rule < l.length := by
  by_cases hr : rule = "eldest"
  · unfold dropIx
    rw [if_pos hr]
    exact List.length_pos_iff.mpr hl
  · obtain ⟨_, _, h⟩ := drop_head hl hr
    exact h
def keptF (l : List (Int × Int)) (mem m : Int) : List (Int × Int) := l.filter fun q => decide (m - q.2 ≤ mem)
def fillF (tx : List (Option Int)) (p : Nat) (t : Int) : List (Option Int) := tx.take p ++ some t :: tx.drop (p + 1)
def lateF (n num m rk : Int) : Opn := ⟨num, m, m, List.replicate n.toNat none, rk⟩
def openedF (n room : Int) (rule : Str) (l : List Opn) (num m rk : Int) : List Opn × Option Opn :=
  if n = 1 ∨ (l.length : Int) < room then (l ++ [lateF n num m rk], none)
  else (l.take (dropIx l rule) ++ (l.drop (dropIx l rule + 1) ++ [lateF n num m rk]), l[dropIx l rule]?)
def ooD : Option Opn → D
  | none => .non
  | some o => o.d
def fullF (o : Opn) (p : Nat) (t : Int) : List (Option Int) := if (o.tx.getD p none).isSome then o.tx else fillF o.tx p t
def shwD : Option (Int × Int × List (Option Int)) → D
  | none => .non
  | some (m, n, tx) => .tup [.int m, .int n, txD tx]
structure HB where
  l : List Opn
  r : List (Int × Int)
  s : Option (Int × Int × List (Option Int))
def heardF (l : List Opn) (r : List (Int × Int)) (k : Nat) (o : Opn) (m t : Int) (p : Nat) (rk : Int) : HB :=
  if none ∈ fullF o p t then ⟨l.take k ++ (⟨o.num, o.op, m, fullF o p t, rk⟩ : Opn) :: l.drop (k + 1), r, none⟩
  else ⟨l.take k ++ l.drop (k + 1), r ++ [(o.num, m)], some (m, o.num, fullF o p t)⟩
def HB.d (h : HB) : D := .tup [opsD h.l, remD h.r, shwD h.s]
section
variable {P : Program} {w : World} {K : PySem.W.Frag} {mg : Str → Option Value} {base : Heap}
def g_index_of_number : List D → D → Prop := fun ds d => ∃ (n : Int) (l : List Opn) (k : Int), ds = [opsD l, .int k] ∧ OOk n l ∧ d = onD (indexOf l k)
theorem ok_index_of_number (E : Env1 K mg) : Cl P w K mg base 1 "index_of_number" (pureC g_index_of_number) := by
  have nd : (["opens", "number", "found", "k", "one"] : List Str).Nodup := by decide +kernel
  refine cl_ok (N := ["opens", "number", "found", "k", "one"]) (ps := ["opens", "number"]) (E.T.at 22) ⟨rfl, rfl, rfl, nd, rfl, by decide +kernel, by decide +kernel⟩ (fun _ _ _ _ _ _ us hl => match us, hl with | [_, _], _ => rfl) ?_ ?_
  · rintro M ds os d os1 ⟨_, n, l, k, rfl, _⟩
    rfl
  · rintro f cdv A outer s H E0 hr M ds os d os1 ⟨rfl, n, l, k, rfl, ok, rfl⟩
    refine
    stm_setLc 2 (own := [("k", 3), ("one", 4)]) l.zipIdx (fun q => D.tup [.int (q.2 : Nat), q.1.d]) (fun q => decide (q.1.num = k)) (fun q => .int (q.2 : Nat)) (wk_enumL (ds' := enL l Opn.d) E.B.enumerate (ev_var 0 rfl) (enL_hd _ _)) (blkOk_by (by kernel_rfl)) (fun _ _ _ _ _ _ => (tgt_tup rfl (tgts_cons (tgt_name 3 nd) (tgts_cons (tgt_name 4 nd) tgts_nil)) (fCons_len (fCons_len fNil_len)))) (fun x hx => ⟨_, rfl, fun L acc => ⟨fun s H C cl fp => (tsts_one (tst_cmp c_eqI (ev_ixT (ev_var 4 rfl) ev_int rfl) (ev_var 1 rfl))), fun hp s H C cl fp => (ev_var 3 rfl)⟩⟩) (by
      rw [List.length_zipIdx]
      have := ok.len
      omega) rfl nd <|
    stm_ret (ev_if (d := onD (indexOf l k)) (tst_cmp c_gt (ev_bi b_lenL E.B.len boot_len (arg_cons (ev_var 2 rfl) arg_nil)) ev_int) (fun h1 => (ev_ixL (ev_var 2 rfl) ev_int ?_)) fun h2 => ev_eq ev_non ?_) ⟨rfl, rfl⟩
    · refine atI_nat (j := 0) ?_
      unfold indexOf ixN'
      revert h1
      cases l.zipIdx.filter fun q => decide (q.1.num = k) with
      | nil => intro h; simp at h
      | cons x xs => intro _; rfl
    · unfold indexOf ixN'
      revert h2
      cases l.zipIdx.filter fun q => decide (q.1.num = k) with
      | nil => intro _; rfl
      | cons x xs =>
        intro h
        simp at h
        try omega
def g_index_to_drop : List D → D → Prop := fun ds d => ∃ (n : Int) (l : List Opn) (rule : Str), ds = [opsD l, .str rule] ∧ OOk n l ∧ l ≠ [] ∧ d = .int (dropIx l rule : Nat)
theorem ok_index_to_drop (E : Env1 K mg) : Cl P w K mg base 1 "index_to_drop" (pureC g_index_to_drop) := by
  have nd : (["opens", "drop", "k", "one"] : List Str).Nodup := by decide +kernel
  refine cl_ok (N := ["opens", "drop", "k", "one"]) (ps := ["opens", "drop"]) (E.T.at 23) ⟨rfl, rfl, rfl, nd, rfl, by decide +kernel, by decide +kernel⟩ (fun _ _ _ _ _ _ us hl => match us, hl with | [_, _], _ => rfl) ?_ ?_
  · rintro M ds os d os1 ⟨_, n, l, rule, rfl, _⟩
    rfl
  · rintro f cdv A outer s H E0 hr M ds os d os1 ⟨rfl, n, l, rule, rfl, ok, hne, rfl⟩
    have hlen := ok.len
    refine
    stm_ifR (tst_cmp c_eqS (ev_var 1 rfl) ev_str) (fun h1 =>
      stm_ret (ev_eq (d := .int (dropIx l rule : Nat)) ev_int (by
        unfold dropIx
        rw [if_pos (of_decide_eq_true h1)] <;> rfl)) ⟨rfl, rfl⟩) fun h2 => ?_
    have h2' := of_decide_eq_false h2
    obtain ⟨r, e1, e2⟩ := drop_head hne h2'
    refine stm_ret (ev_ixT (ds := [.int r, .int (dropIx l rule : Nat)]) (ev_ixL (ev_sortedS (k := 2) (cc := 0) (B := 100) rfl E.B.sorted (ev_setC (own := [("k", 2), ("one", 3)]) l.zipIdx (fun q => D.tup [.int (q.2 : Nat), q.1.d]) (fun q => [q.1.rk, (q.2 : Int)]) hr (wk_enumL (ds' := enL l Opn.d) E.B.enumerate (ev_var 0 rfl) (enL_hd _ _)) (blkOk_by (by kernel_rfl)) (fun _ _ _ _ _ _ => (tgt_tup rfl (tgts_cons (tgt_name 2 nd) (tgts_cons (tgt_name 3 nd) tgts_nil)) (fCons_len (fCons_len fNil_len)))) (fun x hx => ⟨_, rfl, fun L o s H C cl fp => ev_tup (arg_cons (ev_ixT (ev_var 3 rfl) ev_int rfl) (arg_cons (ev_var 2 rfl) arg_nil))⟩) (by
        rw [List.length_zipIdx]
        omega) rfl nd) (by decide) (fun x hx => ?_)) ev_int ?_) ev_int rfl) ⟨rfl, rfl⟩
    · obtain ⟨q, h3, rfl⟩ := List.mem_map.mp hx
      have h4 := zip_mem h3
      have h5 := (List.getElem?_eq_some_iff.mp h4).1
      have h6 := ok.rk _ (List.mem_of_getElem? h4)
      refine ⟨rfl, fun z hz => ?_⟩
      simp only [List.map_cons, List.map_nil, List.mem_cons, List.not_mem_nil, or_false] at hz
      rcases hz with rfl | rfl <;> omega
    · refine atI_nat (j := 0) ?_
      rw [List.getElem?_map, ← List.head?_eq_getElem?]
      show ((lsort (dd (rkL l))).head?).map tupI = _
      rw [e1] <;> rfl
def g_kept_numbers : List D → D → Prop := fun ds d => ∃ (l : List (Int × Int)) (mem m : Int), ds = [remD l, .int mem, .int m] ∧ ROk l ∧ d = remD (keptF l mem m)
theorem ok_kept_numbers (E : Env1 K mg) : Cl P w K mg base 1 "kept_numbers" (pureC g_kept_numbers) := by
  have nd : (["remembered", "memory", "moment", "number", "shown"] : List Str).Nodup := by decide +kernel
  refine cl_ok (N := ["remembered", "memory", "moment", "number", "shown"]) (ps := ["remembered", "memory", "moment"]) (E.T.at 24) ⟨rfl, rfl, rfl, nd, rfl, by decide +kernel, by decide +kernel⟩ (fun _ _ _ _ _ _ us hl => match us, hl with | [_, _, _], _ => rfl) ?_ ?_
  · rintro M ds os d os1 ⟨_, l, mem, m, rfl, _⟩
    rfl
  · rintro f cdv A outer s H E0 hr M ds os d os1 ⟨rfl, l, mem, m, rfl, ok, rfl⟩
    have hl := ok.len
    exact
    stm_ret (ev_dcItems (own := [("number", 3), ("shown", 4)]) (δf := [none, some (.int mem), some (.int m), none, none]) 0 l (fun q => decide (m - q.2 ≤ mem)) (fun q => q.1) (fun q => .int q.2) rfl rfl (fun k d hk => by
        match k, hk with
        | 1, hk => cases hk; exact ⟨rfl, rfl⟩
        | 2, hk => cases hk; exact ⟨rfl, rfl⟩
        | 0, hk => cases hk
        | 3, hk => cases hk
        | 4, hk => cases hk
        | k + 5, hk => cases hk) (fun x hx => rfl) (blkOk_by (by kernel_rfl)) (fun _ _ _ _ _ _ => (tgt_tup rfl (tgts_cons (tgt_name 3 nd) (tgts_cons (tgt_name 4 nd) tgts_nil)) (fCons_len (fCons_len fNil_len))))
        (fun x hx => ⟨_, rfl, fun M' os' => ⟨fun s H C cl fp => tsts_one (tst_cmp c_le (ev_sub (ev_var 2 rfl) (ev_var 4 rfl)) (ev_var 1 rfl)), fun hp s H C cl fp => ⟨ev_var 3 rfl, ev_var 4 rfl⟩⟩⟩) ok.nd (by omega) rfl nd) ⟨rfl, rfl⟩
def g_filled : List D → D → Prop := fun ds d => ∃ (tx : List (Option Int)) (p : Nat) (t : Int), ds = [txD tx, .int (p : Nat), .int t] ∧ tx.length ≤ 60 ∧ d = txD (fillF tx p t)
theorem ok_filled (E : Env1 K mg) : Cl P w K mg base 1 "filled" (pureC g_filled) := by
  have nd : (["texts", "part", "text"] : List Str).Nodup := by decide +kernel
  refine cl_ok (N := ["texts", "part", "text"]) (ps := ["texts", "part", "text"]) (E.T.at 25) ⟨rfl, rfl, rfl, nd, rfl, by decide +kernel, by decide +kernel⟩ (fun _ _ _ _ _ _ us hl => match us, hl with | [_, _, _], _ => rfl) ?_ ?_
  · rintro M ds os d os1 ⟨_, tx, p, t, rfl, _⟩
    rfl
  · rintro f cdv A outer s H E0 hr M ds os d os1 ⟨rfl, tx, p, t, rfl, hl, rfl⟩
    refine
    stm_ret (ev_eq (ev_tup (arg_starT (ev_cutT (ev_var 0 rfl) prt_no (prt_yes (ev_var 1 rfl))) (arg_cons (ev_var 2 rfl) (arg_starT (ev_cutT (ev_var 0 rfl) (prt_yes (ev_add (ev_var 1 rfl) ev_int)) prt_no) arg_nil))) ?_) ?_) ⟨rfl, rfl⟩
    · have e1 : cutD (tx.map oiD) none (some (p : Int)) = (tx.map oiD).take p := cutD_to _ _
      have e2 : cutD (tx.map oiD) (some ((p : Int) + 1)) none = (tx.map oiD).drop (p + 1) := cutD_from _ (p + 1)
      rw [e1, e2]
      simp
      omega
    · have e1 : cutD (tx.map oiD) none (some (p : Int)) = (tx.map oiD).take p := cutD_to _ _
      have e2 : cutD (tx.map oiD) (some ((p : Int) + 1)) none = (tx.map oiD).drop (p + 1) := cutD_from _ (p + 1)
      rw [e1, e2]
      unfold fillF txD
      simp [oiD]
theorem txD_at {tx : List (Option Int)} {p : Nat} (h : p < tx.length) : atI (tx.map oiD) (p : Int) = some (oiD (tx.getD p none)) := by
  refine atI_nat ?_
  rw [List.getElem?_map, List.getElem?_eq_getElem h, List.getD_eq_getElem?_getD, List.getElem?_eq_getElem h] <;> rfl
theorem opsD_at {l : List Opn} {k : Nat} {o : Opn} (h : l[k]? = some o) : atI (l.map Opn.d) (k : Int) = some o.d := by
  refine atI_nat ?_
  rw [List.getElem?_map, h] <;> rfl
theorem cut_to (l : List Opn) (k : Nat) : cutD (l.map Opn.d) none (some (k : Int)) = (l.take k).map Opn.d := by
  rw [cutD_map, cutD_to]
theorem cut_from (l : List Opn) (k : Nat) : cutD (l.map Opn.d) (some ((k : Int) + 1)) none = (l.drop (k + 1)).map Opn.d := by
  rw [cutD_map, show ((k : Int) + 1) = ((k + 1 : Nat) : Int) from rfl, cutD_from]
def g_opened_for : List D → D → Prop := fun ds d => ∃ (s : Snd) (r : Roa) (e : Ear) (l : List Opn) (num m rk : Int), ds = [bookD s r e, opsD l, .int num, .int m, .int rk] ∧ s.Ok ∧ e.Ok ∧ OOk s.n l ∧ d = .tup [opsD (openedF s.n e.r e.rule l num m rk).1, ooD (openedF s.n e.r e.rule l num m rk).2]
theorem ok_opened_for (E : Env1 K mg) : Cl P w K mg base 2 "opened_for" (pureC g_opened_for) := by
  have nd : (["book", "opens", "number", "moment", "rank", "late", "k", "n", "room", "drop"] : List Str).Nodup := by decide +kernel
  refine cl_ok (N := ["book", "opens", "number", "moment", "rank", "late", "k", "n", "room", "drop"]) (ps := ["book", "opens", "number", "moment", "rank"]) (E.T.at 26) ⟨rfl, rfl, rfl, nd, rfl, by decide +kernel, by decide +kernel⟩ (fun _ _ _ _ _ _ us hl => match us, hl with | [_, _, _, _, _], _ => rfl) ?_ ?_
  · rintro M ds os d os1 ⟨_, s, r, e, l, num, m, rk, rfl, _⟩
    rfl
  · rintro f cdv A outer sh H E0 hr M ds os d os1 ⟨rfl, s, r, e, l, num, m, rk, rfl, so, eo, ok, rfl⟩
    have hlen := ok.len
    have n1 := so.n1
    have n2 := so.n2
    have r1 := eo.r1
    refine
    stm_par3 7 8 9 (arg_cons (ev_ixT (ev_ixT (ev_var 0 rfl) ev_int rfl) ev_int rfl) (arg_cons (ev_ixT (ev_ixT (ev_var 0 rfl) ev_int rfl) ev_int rfl) (arg_cons (ev_ixT (ev_ixT (ev_var 0 rfl) ev_int rfl) ev_int rfl) arg_nil))) rfl nd <|
    stm_set 5 (ev_eq (d := (lateF s.n num m rk).d) (ev_tup (arg_cons (ev_var 2 rfl) (arg_cons (ev_var 3 rfl) (arg_cons (ev_var 3 rfl) (arg_cons (ev_rep (ev_tup (arg_cons ev_non arg_nil)) (ev_var 7 rfl) n1 (by omega)) (arg_cons (ev_var 4 rfl) arg_nil)))))) (by
      unfold lateF Opn.d txD
      rw [List.map_replicate] <;> rfl)) nd <|
    stm_ifR (tst_w (tsw_or (tst_cmp c_eqI (ev_var 7 rfl) ev_int) fun h3 => (tsw_or1 (tst_cmp c_lt (ev_bi b_lenL E.B.len boot_len (arg_cons (ev_var 1 rfl) arg_nil)) (ev_var 8 rfl))))) (fun h1 =>
      stm_ret (ev_tup (arg_cons (ev_lst (arg_starL (ev_var 1 rfl) (arg_cons (ev_var 5 rfl) arg_nil))) (arg_cons ev_non arg_nil))) ⟨?_, rfl⟩) fun h2 => ?_
    · have h : s.n = 1 ∨ (l.length : Int) < e.r := by simpa using h1
      unfold openedF
      rw [if_pos h]
      unfold opsD
      rw [List.map_append] <;> rfl
    · have h : ¬ (s.n = 1 ∨ (l.length : Int) < e.r) := by simpa using h2
      have hne : l ≠ [] := fun z => h (.inr (by rw [z]; simp; omega))
      have hk := drop_lt (rule := e.rule) hne
      refine
      stm_set 6 (ev_callP (ok_index_to_drop E) hr (arg_cons (ev_var 1 rfl) (arg_cons (ev_var 9 rfl) arg_nil)) ⟨s.n, l, e.rule, rfl, ok, hne, rfl⟩) nd <|
      stm_ret (ev_eq (ev_tup (arg_cons (ev_lst (arg_starL (ev_cutL (ev_var 1 rfl) prt_no (prt_yes (ev_var 6 rfl))) (arg_starL (ev_cutL (ev_var 1 rfl) (prt_yes (ev_add (ev_var 6 rfl) ev_int)) prt_no) (arg_cons (ev_var 5 rfl) arg_nil))) (by
        rw [cut_to, cut_from]
        simp
        omega)) (arg_cons (ev_ixL (ev_var 1 rfl) (ev_var 6 rfl) (opsD_at (List.getElem?_eq_getElem hk))) arg_nil))) ?_) ⟨rfl, rfl⟩
      rw [cut_to, cut_from]
      unfold openedF
      rw [if_neg h, List.getElem?_eq_getElem hk]
      unfold opsD
      rw [List.map_append, List.map_append] <;> rfl
def g_heard_by : List D → D → Prop := fun ds d => ∃ (n : Int) (l : List Opn) (r : List (Int × Int)) (k : Nat) (o : Opn) (m t : Int) (p : Nat) (rk : Int), ds = [opsD l, remD r, .int (k : Nat), .tup [.int m, .int t, .int (p : Nat)], .int rk] ∧ OOk n l ∧ ROk r ∧ n ≤ 10 ∧ l[k]? = some o ∧ p < o.tx.length ∧ hasK (r.map fun q => Sum.inl q.1) (.inl o.num) = false ∧ d = (heardF l r k o m t p rk).d
theorem ok_heard_by (E : Env1 K mg) : Cl P w K mg base 2 "heard_by" (pureC g_heard_by) := by
  have nd : (["opens", "remembered", "spot", "arrival", "rank", "late", "moment", "text", "part", "number", "opened", "heard", "texts", "before"] : List Str).Nodup := by decide +kernel
  refine cl_ok (N := ["opens", "remembered", "spot", "arrival", "rank", "late", "moment", "text", "part", "number", "opened", "heard", "texts", "before"]) (ps := ["opens", "remembered", "spot", "arrival", "rank"]) (E.T.at 27) ⟨rfl, rfl, rfl, nd, rfl, by decide +kernel, by decide +kernel⟩ (fun _ _ _ _ _ _ us hl => match us, hl with | [_, _, _, _, _], _ => rfl) ?_ ?_
  · rintro M ds os d os1 ⟨_, n, l, r, k, o, m, t, p, rk, rfl, _⟩
    rfl
  · rintro f cdv A outer sh H E0 hr M ds os d os1 ⟨rfl, n, l, r, k, o, m, t, p, rk, rfl, ok, ro, n10, hk, hp, hn, rfl⟩
    have hlen := ok.len
    have rlen := ro.len
    have htx := ok.tx o (List.mem_of_getElem? hk)
    have hlt : (fullF o p t).length ≤ 60 := by
      unfold fullF fillF
      split
      · omega
      · simp
        omega
    have hin : inD .non ((fullF o p t).map oiD) = decide (none ∈ fullF o p t) := by
      unfold inD
      generalize fullF o p t = tx
      induction tx with
      | nil => rfl
      | cons x xs ih =>
        unfold inV at ih ⊢
        rw [List.map_cons, List.map_cons, List.any_cons, ih]
        cases x with
        | none => simp [oiD, toV, eqV]
        | some i => simp [oiD, toV, eqV]
    refine
    stm_asg (ev_var 3 rfl) (tgt_tup rfl (tgts_cons (tgt_name 6 nd) (tgts_cons (tgt_name 7 nd) (tgts_cons (tgt_name 8 nd) tgts_nil))) (fCons_len (fCons_len (fCons_len fNil_len)))) rfl <|
    stm_asg (ev_ixL (ev_var 0 rfl) (ev_var 2 rfl) (opsD_at hk)) (tgt_tup rfl (tgts_cons (tgt_name 9 nd) (tgts_cons (tgt_name 10 nd) (tgts_cons (tgt_name 11 nd) (tgts_cons (tgt_name 12 nd) (tgts_cons (tgt_name 13 nd) tgts_nil))))) (fCons_len (fCons_len (fCons_len (fCons_len (fCons_len fNil_len)))))) rfl <|
    stm_set 5 (ev_if (d := txD (fullF o p t)) (tst_cmp c_notN (ev_ixT (ev_var 12 rfl) (ev_var 8 rfl) (txD_at hp)) ev_non) (fun h1 => ev_eq (ev_var 12 rfl) ?_) fun h2 => ev_eq (ev_callP (ok_filled E) hr (arg_cons (ev_var 12 rfl) (arg_cons (ev_var 8 rfl) (arg_cons (ev_var 7 rfl) arg_nil))) ⟨o.tx, p, t, rfl, by omega, rfl⟩) ?_) nd <|
    stm_ifR (tst_cmp (c_inT rfl (by
      rw [List.all_map, List.all_eq_true]
      intro x hx
      cases x <;> rfl)) ev_non (ev_var 5 rfl)) (fun h3 =>
      stm_ret (ev_tup (arg_cons (ev_lst (arg_starL (ev_cutL (ev_var 0 rfl) prt_no (prt_yes (ev_var 2 rfl))) (arg_cons (ev_tup (arg_cons (ev_var 9 rfl) (arg_cons (ev_var 10 rfl) (arg_cons (ev_var 6 rfl) (arg_cons (ev_var 5 rfl) (arg_cons (ev_var 4 rfl) arg_nil)))))) (arg_starL (ev_cutL (ev_var 0 rfl) (prt_yes (ev_add (ev_var 2 rfl) ev_int)) prt_no) arg_nil))) (by
        rw [cut_to, cut_from]
        simp
        omega)) (arg_cons (ev_var 1 rfl) (arg_cons ev_non arg_nil)))) ⟨?_, rfl⟩) fun h4 =>
    stm_ret (ev_tup (arg_cons (ev_lst (arg_starL (ev_cutL (ev_var 0 rfl) prt_no (prt_yes (ev_var 2 rfl))) (arg_starL (ev_cutL (ev_var 0 rfl) (prt_yes (ev_add (ev_var 2 rfl) ev_int)) prt_no) arg_nil)) (by
        rw [cut_to, cut_from]
        simp
        omega)) (arg_cons (ev_dispStar (fun A o => ev_var 1 rfl) (fun A S o o' => ev_var 9 rfl) (fun A S o o' => ev_var 6 rfl) hn (by
        rw [List.length_map]
        omega)) (arg_cons (ev_tup (arg_cons (ev_var 6 rfl) (arg_cons (ev_var 9 rfl) (arg_cons (ev_var 5 rfl) arg_nil)))) arg_nil)))) ⟨?_, rfl⟩
    · have : (o.tx.getD p none).isSome = true := by
        revert h1
        cases o.tx.getD p none <;> simp [oiD, D.isNon]
      unfold fullF
      rw [if_pos this] <;> rfl
    · have : ¬ (o.tx.getD p none).isSome = true := by
        revert h2
        cases o.tx.getD p none <;> simp [oiD, D.isNon]
      unfold fullF
      rw [if_neg this] <;> rfl
    · rw [hin] at h3
      unfold heardF
      rw [if_pos (of_decide_eq_true h3), cut_to, cut_from]
      unfold HB.d opsD
      rw [List.map_append, List.map_cons]
      simp [Opn.d, shwD]
    · rw [hin] at h4
      unfold heardF
      rw [if_neg (of_decide_eq_false h4), cut_to, cut_from]
      unfold HB.d opsD remD
      rw [List.map_append, List.map_append, List.map_append]
      simp [Opn.d, shwD]
end
end PW
namespace PW
open PySem PySem.Spec PyProof.Rows L2
structure HSel where
  l : List Opn
  out : Option Opn
  k : Nat
  o : Opn
  w : Str
def selF (s : Snd) (e : Ear) (left : List Opn) (num m : Int) (p : Nat) (rk : Int) : HSel :=
  match indexOf left num with
  | none => ⟨(openedF s.n e.r e.rule left num m rk).1, (openedF s.n e.r e.rule left num m rk).2, (openedF s.n e.r e.rule left num m rk).1.length - 1, lateF s.n num m rk, "opens"⟩
  | some k => ⟨left, none, k, left.getD k (lateF s.n num m rk), if ((left.getD k (lateF s.n num m rk)).tx.getD p none).isNone then "comes" else "again"⟩
structure HR where
  l : List Opn
  r : List (Int × Int)
  w : Str
  o : Option Opn
  s : Option (Int × Int × List (Option Int))
  g : List Opn
  b : List (Option Int)
def HR.d (h : HR) : D := .tup [opsD h.l, remD h.r, .tup [.str h.w, ooD h.o, shwD h.s, opsD h.g, txD h.b]]
def hearF (s : Snd) (e : Ear) (l : List Opn) (r : List (Int × Int)) (m t : Int) (p : Nat) (num rk : Int) : HR :=
  let gone := l.filter fun o => decide (e.w < m - o.op)
  let left := l.filter fun o => decide (m - o.op ≤ e.w)
  let known := keptF r e.m m
  if hasK (known.map fun q => Sum.inl q.1) (.inl num) then ⟨left, known, "swallowed", none, none, gone, []⟩
  else if indexOf left num = none ∧ 1 < s.n ∧ e.r ≤ (left.length : Int) ∧ e.rule = "newest" then ⟨left, known, "refused", none, none, gone, []⟩
  else
    let q := selF s e left num m p rk
    let h := heardF q.l known q.k q.o m t p rk
    ⟨h.l, h.r, q.w, q.out, h.s, gone, q.o.tx⟩
theorem OOk.sub {n : Int} {l l' : List Opn} (h : OOk n l) (s : ∀ o ∈ l', o ∈ l) (hl : l'.length ≤ l.length) : OOk n l' := ⟨Nat.le_trans hl h.len, fun o ho => h.tx o (s o ho), fun o ho => h.rk o (s o ho)⟩
theorem late_ok {s : Snd} {num m rk : Int} (h0 : 0 ≤ rk) (h1 : rk ≤ 60) : (lateF s.n num m rk).tx.length = s.n.toNat ∧ 0 ≤ (lateF s.n num m rk).rk ∧ (lateF s.n num m rk).rk ≤ 60 := ⟨by unfold lateF; simp, h0, h1⟩
theorem opened_ok {s : Snd} {e : Ear} {l : List Opn} {num m rk : Int} (ok : OOk s.n l) (hl : l.length < 60) (h0 : 0 ≤ rk) (h1 : rk ≤ 60) : OOk s.n (openedF s.n e.r e.rule l num m rk).1 ∧ (openedF s.n e.r e.rule l num m rk).1.length ≤ l.length + 1 ∧
    (openedF s.n e.r e.rule l num m rk).1[(openedF s.n e.r e.rule l num m rk).1.length - 1]? = some (lateF s.n num m rk) ∧ 1 ≤ (openedF s.n e.r e.rule l num m rk).1.length := by
  obtain ⟨z1, z2, z3⟩ := late_ok (s := s) (num := num) (m := m) h0 h1
  have mem : ∀ o ∈ (openedF s.n e.r e.rule l num m rk).1, o ∈ l ∨ o = lateF s.n num m rk := by
    unfold openedF
    split
    · intro o ho
      simpa using ho
    · intro o ho
      simp only [List.mem_append, List.mem_singleton] at ho
      rcases ho with ho | ho | ho
      · exact .inl (List.mem_of_mem_take ho)
      · exact .inl (List.mem_of_mem_drop ho)
      · exact .inr ho
  have len : (openedF s.n e.r e.rule l num m rk).1.length ≤ l.length + 1 := by
    unfold openedF
    split
    · simp
    · simp
      omega
  have shape : ∃ a, (openedF s.n e.r e.rule l num m rk).1 = a ++ [lateF s.n num m rk] := by
    unfold openedF
    split
    · exact ⟨l, rfl⟩
    · exact ⟨_, (List.append_assoc ..).symm⟩
  obtain ⟨a, ha⟩ := shape
  refine ⟨⟨by omega, fun o ho => ?_, fun o ho => ?_⟩, len, ?_, ?_⟩
  · rcases mem o ho with z | rfl
    · exact ok.tx o z
    · exact z1
  · rcases mem o ho with z | rfl
    · exact ok.rk o z
    · exact ⟨z2, z3⟩
  · rw [ha]
    simp
  · rw [ha]
    simp
theorem indexOf_num {l : List Opn} {n : Int} {k : Nat} (h : indexOf l n = some k) : ∃ o, l[k]? = some o ∧ o ∈ l ∧ o.num = n := by
  unfold indexOf at h
  have h1 := List.mem_of_mem_head? h
  obtain ⟨q, h2, h3⟩ := List.mem_map.mp h1
  have h4 := zip_mem (List.mem_filter.mp h2).1
  rw [h3] at h4
  exact ⟨q.1, h4, List.mem_of_getElem? h4, of_decide_eq_true (List.mem_filter.mp h2).2⟩
theorem sel_ok {s : Snd} {e : Ear} {l : List Opn} {num m rk : Int} {p : Nat} (ok : OOk s.n l) (hl : l.length < 60) (h0 : 0 ≤ rk) (h1 : rk ≤ 60) : OOk s.n (selF s e l num m p rk).l ∧ (selF s e l num m p rk).l.length ≤ l.length + 1 ∧ (selF s e l num m p rk).l[(selF s e l num m p rk).k]? = some (selF s e l num m p rk).o ∧ (selF s e l num m p rk).o.num = num := by
  unfold selF
  cases hi : indexOf l num with
  | none =>
    obtain ⟨a, b, c, d⟩ := opened_ok (e := e) (num := num) (m := m) ok hl h0 h1
    exact ⟨a, b, c, rfl⟩
  | some k =>
    obtain ⟨o, e1, e2, e3⟩ := indexOf_num hi
    have e4 : l.getD k (lateF s.n num m rk) = o := by rw [List.getD_eq_getElem?_getD, e1] <;> rfl
    exact ⟨ok, Nat.le_succ _, e1.trans (congrArg some e4.symm), (congrArg Opn.num e4).trans e3⟩
theorem kept_ok {r : List (Int × Int)} {mem m : Int} (h : ROk r) : ROk (keptF r mem m) ∧ (keptF r mem m).length ≤ r.length := by
  unfold keptF
  have := List.length_filter_le (fun q : Int × Int => decide (m - q.2 ≤ mem)) r
  have hl := h.len
  exact ⟨⟨by omega, h.nd.sublist ((List.filter_sublist (p := _) (l := r)).map _)⟩, this⟩
theorem fill_len {tx : List (Option Int)} {p : Nat} {t : Int} (h : p < tx.length) : (fillF tx p t).length = tx.length := by
  unfold fillF
  simp
  omega
theorem heard_ok {n : Int} {l : List Opn} {r : List (Int × Int)} {k : Nat} {o : Opn} {m t : Int} {p : Nat} {rk : Int} (ok : OOk n l) (ro : ROk r) (hk : l[k]? = some o) (hp : p < o.tx.length) (hn : hasK (r.map fun q => Sum.inl q.1) (.inl o.num) = false) (h0 : 0 ≤ rk) (h1 : rk ≤ 60) (hr : r.length < 60) :
    OOk n (heardF l r k o m t p rk).l ∧ (heardF l r k o m t p rk).l.length ≤ l.length ∧ ROk (heardF l r k o m t p rk).r ∧ (heardF l r k o m t p rk).r.length ≤ r.length + 1 := by
  have kl := (List.getElem?_eq_some_iff.mp hk).1
  have htx := ok.tx o (List.mem_of_getElem? hk)
  have hlen := ok.len
  have ft : (fullF o p t).length = n.toNat := by
    unfold fullF
    split
    · exact htx
    · rw [fill_len hp, htx]
  unfold heardF
  split
  · have hl2 : (l.take k ++ (⟨o.num, o.op, m, fullF o p t, rk⟩ : Opn) :: l.drop (k + 1)).length = l.length := by
      simp
      omega
    have mem : ∀ q ∈ l.take k ++ (⟨o.num, o.op, m, fullF o p t, rk⟩ : Opn) :: l.drop (k + 1), q ∈ l ∨ q = ⟨o.num, o.op, m, fullF o p t, rk⟩ := by
      intro q hq
      rw [List.mem_append, List.mem_cons] at hq
      rcases hq with hq | hq | hq
      · exact .inl (List.mem_of_mem_take hq)
      · exact .inr hq
      · exact .inl (List.mem_of_mem_drop hq)
    refine ⟨⟨by rw [hl2]; exact hlen, fun q hq => ?_, fun q hq => ?_⟩, Nat.le_of_eq hl2, ro, Nat.le_succ _⟩
    · rcases mem q hq with z | rfl
      · exact ok.tx q z
      · exact ft
    · rcases mem q hq with z | rfl
      · exact ok.rk q z
      · exact ⟨h0, h1⟩
  · have mem : ∀ q ∈ l.take k ++ l.drop (k + 1), q ∈ l := by
      intro q hq
      rw [List.mem_append] at hq
      rcases hq with hq | hq
      · exact List.mem_of_mem_take hq
      · exact List.mem_of_mem_drop hq
    have hl2 : (l.take k ++ l.drop (k + 1)).length ≤ l.length := by
      simp
      omega
    refine ⟨ok.sub mem hl2, hl2, ⟨?_, ?_⟩, ?_⟩
    · simp
      omega
    · rw [List.map_append, List.nodup_append]
      refine ⟨ro.nd, by simp, fun a ha b hb z => ?_⟩
      simp at hb
      subst hb z
      obtain ⟨q, h2, h3⟩ := List.mem_map.mp ha
      have : hasK (r.map fun q => (Sum.inl q.1 : Key)) (.inl o.num) = true := hasK_iff.mpr (List.mem_map.mpr ⟨q, h2, by rw [h3]⟩)
      rw [hn] at this
      cases this
    · simp
theorem hear_ok {s : Snd} {e : Ear} {l : List Opn} {r : List (Int × Int)} {m t : Int} {p : Nat} {num rk : Int} (ok : OOk s.n l) (ro : ROk r) (hl : l.length < 60) (hr : r.length < 60) (h0 : 0 ≤ rk) (h1 : rk ≤ 60) (hp : (p : Int) < s.n) :
    OOk s.n (hearF s e l r m t p num rk).l ∧ (hearF s e l r m t p num rk).l.length ≤ l.length + 1 ∧ ROk (hearF s e l r m t p num rk).r ∧ (hearF s e l r m t p num rk).r.length ≤ r.length + 1 := by
  obtain ⟨kr, kl⟩ := kept_ok (mem := e.m) (m := m) ro
  have lf := List.length_filter_le (fun o : Opn => decide (m - o.op ≤ e.w)) l
  have lo : OOk s.n (l.filter fun o => decide (m - o.op ≤ e.w)) := ok.sub (fun o ho => (List.mem_filter.mp ho).1) lf
  unfold hearF
  simp only
  split
  · exact ⟨lo, by simp only; omega, kr, by simp only; omega⟩
  · rename_i h3
    split
    · exact ⟨lo, by simp only; omega, kr, by simp only; omega⟩
    · obtain ⟨a, b, c, d⟩ := sel_ok (e := e) (num := num) (m := m) (p := p) lo (by omega) h0 h1
      have hpt := a.tx _ (List.mem_of_getElem? c)
      obtain ⟨x, y, z, u⟩ := heard_ok (m := m) (t := t) (p := p) (rk := rk) a kr c (by omega) (by rw [d]; simpa using h3) h0 h1 (by omega)
      exact ⟨x, by simp only; omega, z, by simp only; omega⟩
end PW
namespace PW
open PySem PySem.Spec PyProof.Rows L2
section
variable {P : Program} {w : World} {K : PySem.W.Frag} {mg : Str → Option Value} {base : Heap}
def g_hear_one : List D → D → Prop := fun ds d => ∃ (s : Snd) (r : Roa) (e : Ear) (l : List Opn) (re : List (Int × Int)) (m t : Int) (p : Nat) (num rk : Int), ds = [bookD s r e, opsD l, remD re, .tup [.int m, .int t, .int (p : Nat)], .int num, .int rk] ∧ s.Ok ∧ e.Ok ∧ OOk s.n l ∧ ROk re ∧ l.length < 60 ∧ re.length < 60 ∧ 0 ≤ rk ∧ rk ≤ 60 ∧ (p : Int) < s.n ∧ d = (hearF s e l re m t p num rk).d
theorem ok_hear_one (E : Env1 K mg) : Cl P w K mg base 3 "hear_one" (pureC g_hear_one) := by
  have nd : (["book", "opens", "remembered", "arrival", "number", "rank", "gone", "left", "known", "word", "before", "moment", "text", "part", "n", "spot", "out", "showing", "wait", "memory", "room", "drop", "one"] : List Str).Nodup := by decide +kernel
  refine cl_ok (N := ["book", "opens", "remembered", "arrival", "number", "rank", "gone", "left", "known", "word", "before", "moment", "text", "part", "n", "spot", "out", "showing", "wait", "memory", "room", "drop", "one"]) (ps := ["book", "opens", "remembered", "arrival", "number", "rank"]) (E.T.at 28) ⟨rfl, rfl, rfl, nd, rfl, by decide +kernel, by decide +kernel⟩ (fun _ _ _ _ _ _ us hl => match us, hl with | [_, _, _, _, _, _], _ => rfl) ?_ ?_
  · rintro M ds os d os1 ⟨_, s, r, e, l, re, m, t, p, num, rk, rfl, _⟩
    rfl
  · rintro f cdv A outer sh H E0 hr M ds os d os1 ⟨rfl, s, r, e, l, re, m, t, p, num, rk, rfl, so, eo, ok, ro, hl, hrl, h0, h1, hp, rfl⟩
    obtain ⟨kr, kl⟩ := kept_ok (mem := e.m) (m := m) ro
    have lf := List.length_filter_le (fun o : Opn => decide (m - o.op ≤ e.w)) l
    have lo : OOk s.n (l.filter fun o => decide (m - o.op ≤ e.w)) := ok.sub (fun o ho => (List.mem_filter.mp ho).1) lf
    have n2 := so.n2
    refine stm_env [some (bookD s r e), some (opsD l), some (remD re), some (.tup [.int m, .int t, .int (p : Nat)]), some (.int num), some (.int rk), none, none, none, none, none, none, none, none, none, none, none, none, none, none, none, none, none] rfl <|
    stm_asg (ev_var 3 rfl) (tgt_tup rfl (tgts_cons (tgt_name 11 nd) (tgts_cons (tgt_name 12 nd) (tgts_cons (tgt_name 13 nd) tgts_nil))) (fCons_len (fCons_len (fCons_len fNil_len)))) rfl <|
    stm_asg (ev_tup (arg_cons (ev_ixT (ev_ixT (ev_var 0 rfl) ev_int rfl) ev_int rfl) (arg_cons (ev_ixT (ev_var 0 rfl) ev_int rfl) arg_nil))) (tgt_tup rfl (tgts_cons (tgt_name 14 nd) (tgts_cons (tgt_tup rfl (tgts_cons (tgt_name 18 nd) (tgts_cons (tgt_name 19 nd) (tgts_cons (tgt_name 20 nd) (tgts_cons (tgt_name 21 nd) tgts_nil)))) (fCons_len (fCons_len (fCons_len (fCons_len fNil_len))))) tgts_nil)) (fCons_len (fCons_len fNil_len))) rfl <|
    stm_env [some (bookD s r e), some (opsD l), some (remD re), some (.tup [.int m, .int t, .int (p : Nat)]), some (.int num), some (.int rk), none, none, none, none, none, some (.int m), some (.int t), some (.int (p : Nat)), some (.int s.n), none, none, none, some (.int e.w), some (.int e.m), some (.int e.r), some (.str e.rule), none] rfl <|
    stm_setLc 6 (own := [("one", 22)]) l Opn.d (fun o => decide (e.w < m - o.op)) Opn.d (wk_lst (ev_var 1 rfl)) (blkOk_by (by kernel_rfl)) (fun _ _ _ _ _ _ => (tgt_name 22 nd)) (fun x hx => ⟨_, rfl, fun L acc => ⟨fun s H C cl fp => (tsts_one (tst_cmp c_gt (ev_sub (ev_var 11 rfl) (ev_ixT (ev_var 22 rfl) ev_int rfl)) (ev_var 18 rfl))), fun hp s H C cl fp => (ev_var 22 rfl)⟩⟩) (by omega) rfl nd <|
    stm_setLc 7 (own := [("one", 22)]) l Opn.d (fun o => decide (m - o.op ≤ e.w)) Opn.d (wk_lst (ev_var 1 rfl)) (blkOk_by (by kernel_rfl)) (fun _ _ _ _ _ _ => (tgt_name 22 nd)) (fun x hx => ⟨_, rfl, fun L acc => ⟨fun s H C cl fp => (tsts_one (tst_cmp c_le (ev_sub (ev_var 11 rfl) (ev_ixT (ev_var 22 rfl) ev_int rfl)) (ev_var 18 rfl))), fun hp s H C cl fp => (ev_var 22 rfl)⟩⟩) (by omega) rfl nd <|
    stm_set 8 (ev_callP (ok_kept_numbers E) hr (arg_cons (ev_var 2 rfl) (arg_cons (ev_var 19 rfl) (arg_cons (ev_var 11 rfl) arg_nil))) ⟨re, e.m, m, rfl, ro, rfl⟩) nd <|
    stm_ifR (tst_din hr (ev_var 4 rfl) (ev_var 8 rfl)) (fun h2 =>
      stm_ret (ev_tup (arg_cons (ev_var 7 rfl) (arg_cons (ev_var 8 rfl) (arg_cons (ev_tup (arg_cons ev_str (arg_cons ev_non (arg_cons ev_non (arg_cons (ev_var 6 rfl) (arg_cons (ev_tup arg_nil) arg_nil)))))) arg_nil)))) ⟨?_, rfl⟩) fun h2 =>
    (?_)
    · have h2' : hasK ((keptF re e.m m).map fun q => Sum.inl q.1) (.inl num) = true := h2
      unfold hearF
      simp only
      rw [if_pos h2'] <;> rfl
    · have h2' : hasK ((keptF re e.m m).map fun q => Sum.inl q.1) (.inl num) = false := h2
      have hF : ∀ left gone known, l.filter (fun o => decide (m - o.op ≤ e.w)) = left → l.filter (fun o => decide (e.w < m - o.op)) = gone → keptF re e.m m = known → hearF s e l re m t p num rk = if indexOf left num = none ∧ 1 < s.n ∧ e.r ≤ (left.length : Int) ∧ e.rule = "newest" then ⟨left, known, "refused", none, none, gone, []⟩
        else ⟨(heardF (selF s e left num m p rk).l known (selF s e left num m p rk).k (selF s e left num m p rk).o m t p rk).l, (heardF (selF s e left num m p rk).l known (selF s e left num m p rk).k (selF s e left num m p rk).o m t p rk).r, (selF s e left num m p rk).w, (selF s e left num m p rk).out, (heardF (selF s e left num m p rk).l known (selF s e left num m p rk).k (selF s e left num m p rk).o m t p rk).s, gone, (selF s e left num m p rk).o.tx⟩ := by
        rintro _ _ _ rfl rfl rfl
        unfold hearF
        simp only
        rw [if_neg (by rw [h2']; decide)]
      generalize hL : l.filter (fun o => decide (m - o.op ≤ e.w)) = left at *
      generalize hG : l.filter (fun o => decide (e.w < m - o.op)) = gone at *
      generalize hK : keptF re e.m m = known at *
      have hF2 := hF left gone known rfl rfl rfl
      rw [hF2]
      clear hF hF2
      refine
      stm_par2 15 16 (arg_cons (ev_callP (ok_index_of_number E) hr (arg_cons (ev_var 7 rfl) (arg_cons (ev_var 4 rfl) arg_nil)) ⟨s.n, left, num, rfl, lo, rfl⟩) (arg_cons ev_non arg_nil)) rfl nd <|
      stm_env [some (bookD s r e), some (opsD l), some (remD re), some (.tup [.int m, .int t, .int (p : Nat)]), some (.int num), some (.int rk), some (.lst (gone.map Opn.d)), some (.lst (left.map Opn.d)), some (remD known), none, none, some (.int m), some (.int t), some (.int (p : Nat)), some (.int s.n), some (onD (indexOf left num)), some .non, none, some (.int e.w), some (.int e.m), some (.int e.r), some (.str e.rule), none] rfl <|
      stm_ifR (tst_w (tsw_and (tst_cmp c_isN (ev_var 15 rfl) ev_non) fun h7 => (tsw_and (tst_cmp c_gt (ev_var 14 rfl) ev_int) fun h6 => (tsw_and (tst_cmp c_ge (ev_bi b_lenL E.B.len boot_len (arg_cons (ev_var 7 rfl) arg_nil)) (ev_var 20 rfl)) fun h5 => (tsw_and1 (tst_cmp c_eqS (ev_var 21 rfl) ev_str)))))) (fun h3 =>
      stm_ret (ev_tup (arg_cons (ev_var 7 rfl) (arg_cons (ev_var 8 rfl) (arg_cons (ev_tup (arg_cons ev_str (arg_cons ev_non (arg_cons ev_non (arg_cons (ev_var 6 rfl) (arg_cons (ev_tup arg_nil) arg_nil)))))) arg_nil)))) ⟨?_, rfl⟩) fun h3 => ?_
      · have : indexOf left num = none ∧ 1 < s.n ∧ e.r ≤ (left.length : Int) ∧ e.rule = "newest" := by
          revert h3
          cases indexOf left num <;> simp [onD, D.isNon]
        rw [if_pos this] <;> rfl
      · have : ¬ (indexOf left num = none ∧ 1 < s.n ∧ e.r ≤ (left.length : Int) ∧ e.rule = "newest") := by
          revert h3
          cases indexOf left num <;> simp [onD, D.isNon]
        rw [if_neg this]
        obtain ⟨a, b, c, dd1⟩ := sel_ok (e := e) (num := num) (m := m) (p := p) lo (by omega) h0 h1
        have hpt := a.tx _ (List.mem_of_getElem? c)
        refine
        stm_set 9 ev_str nd <|
        stm_if (fun δ' os' => os' = os1 ∧ δ' = [some (bookD s r e), some (opsD l), some (remD re), some (.tup [.int m, .int t, .int (p : Nat)]), some (.int num), some (.int rk), some (.lst (gone.map Opn.d)), some (opsD (selF s e left num m p rk).l), some (remD known), some (.str (selF s e left num m p rk).w), none, some (.int m), some (.int t), some (.int (p : Nat)), some (.int s.n), some (.int ((selF s e left num m p rk).k : Nat)), some (ooD (selF s e left num m p rk).out), none, some (.int e.w), some (.int e.m), some (.int e.r), some (.str e.rule), none]) (tst_cmp c_isN (ev_var 15 rfl) ev_non) (fun h8 => ?_) (fun h9 => ?_) fun δ' os' hN => ?_
        · have hi : indexOf left num = none := by
            revert h8
            cases indexOf left num <;> simp [onD, D.isNon]
          obtain ⟨_, _, _, l1⟩ := opened_ok (e := e) (num := num) (m := m) lo (by omega) h0 h1
          refine
          stm_asg (ev_callP (ok_opened_for E) hr (arg_cons (ev_var 0 rfl) (arg_cons (ev_var 7 rfl) (arg_cons (ev_var 4 rfl) (arg_cons (ev_var 11 rfl) (arg_cons (ev_var 5 rfl) arg_nil))))) ⟨s, r, e, left, num, m, rk, rfl, so, eo, lo, rfl⟩) (tgt_tup rfl (tgts_cons (tgt_name 7 nd) (tgts_cons (tgt_name 16 nd) tgts_nil)) (fCons_len (fCons_len fNil_len))) rfl <|
          stm_set 15 (ev_eq (d := .int (((openedF s.n e.r e.rule left num m rk).1.length - 1 : Nat) : Int)) (ev_sub (ev_bi b_lenL E.B.len boot_len (arg_cons (ev_var 7 rfl) arg_nil)) ev_int) (by
            congr 1
            rw [List.length_map]
            omega)) nd <|
          stm_nil ⟨rfl, ?_⟩
          unfold selF
          rw [hi] <;> rfl
        · obtain ⟨k, hi⟩ : ∃ k, indexOf left num = some k := by
            revert h9
            cases indexOf left num <;> simp [onD, D.isNon]
          have hq : selF s e left num m p rk = ⟨left, none, k, left.getD k (lateF s.n num m rk), if ((left.getD k (lateF s.n num m rk)).tx.getD p none).isNone then "comes" else "again"⟩ := by
            unfold selF
            rw [hi]
          rw [hq] at c hpt
          have hpt' : (left.getD k (lateF s.n num m rk)).tx.length = s.n.toNat := hpt
          refine
          stm_set 9 (ev_if (d := .str (if ((left.getD k (lateF s.n num m rk)).tx.getD p none).isNone then "comes" else "again")) (tst_cmp c_isN (ev_ixT (ev_ixT (ev_ixL (i := (k : Int)) (ev_var 7 rfl) (ev_var 15 (by rw [hi] <;> rfl)) (opsD_at c)) ev_int rfl) (ev_var 13 rfl) (txD_at (by omega))) ev_non) (fun h10 => ev_eq ev_str ?_) fun h11 => ev_eq ev_str ?_) nd <|
          stm_nil ⟨rfl, ?_⟩
          · have : ((left.getD k (lateF s.n num m rk)).tx.getD p none).isNone = true := by
              revert h10
              cases (left.getD k (lateF s.n num m rk)).tx.getD p none <;> simp [oiD, D.isNon]
            rw [if_pos this]
          · have : ¬ ((left.getD k (lateF s.n num m rk)).tx.getD p none).isNone = true := by
              revert h11
              cases (left.getD k (lateF s.n num m rk)).tx.getD p none <;> simp [oiD, D.isNon]
            rw [if_neg this]
          · rw [hq, hi] <;> rfl
        · obtain ⟨rfl, rfl⟩ := hN
          generalize selF s e left num m p rk = q at *
          exact
          stm_set 10 (ev_ixT (ev_ixL (ev_var 7 rfl) (ev_var 15 rfl) (opsD_at c)) ev_int rfl) nd <|
          stm_asg (ev_callP (ok_heard_by E) hr (arg_cons (ev_var 7 rfl) (arg_cons (ev_var 8 rfl) (arg_cons (ev_var 15 rfl) (arg_cons (ev_var 3 rfl) (arg_cons (ev_var 5 rfl) arg_nil))))) ⟨s.n, q.l, known, q.k, q.o, m, t, p, rk, rfl, a, kr, n2, c, by omega, by rw [dd1]; exact h2', rfl⟩) (tgt_tup rfl (tgts_cons (tgt_name 7 nd) (tgts_cons (tgt_name 8 nd) (tgts_cons (tgt_name 17 nd) tgts_nil))) (fCons_len (fCons_len (fCons_len fNil_len)))) rfl <|
          stm_ret (ev_tup (arg_cons (ev_var 7 rfl) (arg_cons (ev_var 8 rfl) (arg_cons (ev_tup (arg_cons (ev_var 9 rfl) (arg_cons (ev_var 16 rfl) (arg_cons (ev_var 17 rfl) (arg_cons (ev_var 6 rfl) (arg_cons (ev_var 10 rfl) arg_nil)))))) arg_nil)))) ⟨rfl, rfl⟩
end
end PW
namespace PW
open PySem PySem.Spec PyProof.Rows L2
/-! ### the standing -/
structure Arr where
  m : Int
  t : Nat
  p : Nat
def Arr.d (a : Arr) : D := .tup [.int a.m, .int (a.t : Nat), .int (a.p : Nat)]
def pD (q : Int × Int) : D := .tup [.int q.1, .int q.2]
structure Std where
  bg : List (Int × Int)
  ar : List Arr
  op : List Opn
  kn : List (Int × Int)
  sh : List (Option (Int × Int × List (Option Int)))
def Std.d (e : Ear) (σ : Std) : D := .tup [e.d, .tup (σ.bg.map pD), .tup (σ.ar.map Arr.d), .tup (σ.op.map Opn.d), .tup (σ.kn.map pD), .tup (σ.sh.map shwD)]
structure Std.Ok (s : Snd) (σ : Std) : Prop where
  bl : σ.bg.length ≤ 40
  al : σ.ar.length ≤ 40
  oo : OOk s.n σ.op
  ol : σ.op.length ≤ σ.ar.length
  ro : ROk σ.kn
  rl : σ.kn.length ≤ σ.ar.length
  sl : σ.sh.length ≤ σ.ar.length
def std0 : Std := ⟨[], [], [], [], []⟩
def getR (r : List (Int × Int)) (k : Int) : Int := ((r.find? fun q => decide (q.1 = k)).map (·.2)).getD 0
def srtR (r : List (Int × Int)) : List (Int × Int) := (isort (r.map (·.1))).map fun k => (k, getR r k)
theorem isort_perm (l : List Int) : (isort l).Perm l := List.mergeSort_perm _ _
theorem srtR_ok {r : List (Int × Int)} (h : ROk r) : ROk (srtR r) ∧ (srtR r).length = r.length := by
  have hl : (srtR r).length = r.length := by
    unfold srtR
    rw [List.length_map, (isort_perm _).length_eq, List.length_map]
  refine ⟨⟨by rw [hl]; exact h.len, ?_⟩, hl⟩
  unfold srtR
  rw [List.map_map, show ((fun x : Int × Int => x.1) ∘ fun k => (k, getR r k)) = id from rfl, List.map_id]
  exact (isort_perm _).nodup_iff.mpr h.nd
theorem getR_at {r : List (Int × Int)} (nd : (r.map (·.1)).Nodup) {j : Nat} {q : Int × Int} (h : r[j]? = some q) : getR r q.1 = q.2 := by
  unfold getR
  induction r generalizing j with
  | nil => cases h
  | cons x r ih =>
    rw [List.map_cons, List.nodup_cons] at nd
    cases j with
    | zero =>
      cases h
      simp
    | succ j =>
      have h' : r[j]? = some q := by simpa using h
      have hne : x.1 ≠ q.1 := fun z => nd.1 (List.mem_map.mpr ⟨q, List.mem_of_getElem? h', z.symm⟩)
      rw [List.find?_cons, decide_eq_false hne]
      exact ih nd.2 h'
def arrF (s : Snd) (e : Ear) (σ : Std) (a : Arr) : HR := hearF s e σ.op σ.kn a.m (a.t : Nat) a.p (σ.bg.getD a.t (0, 0)).2 (σ.ar.length : Nat)
def stepA (s : Snd) (e : Ear) (σ : Std) (a : Arr) : Std := ⟨σ.bg, σ.ar ++ [a], (arrF s e σ a).l, srtR (arrF s e σ a).r, if (arrF s e σ a).s.isSome then σ.sh ++ [(arrF s e σ a).s] else σ.sh⟩
def ooN : Option Opn → D
  | none => .non
  | some o => .int o.num
def ansA (s : Snd) (e : Ear) (σ : Std) (a : Arr) : D := .tup [.str (arrF s e σ a).w, ooN (arrF s e σ a).o, .bl (arrF s e σ a).s.isSome]
theorem stepA_ok {s : Snd} {e : Ear} {σ : Std} {a : Arr} (so : s.Ok) (ok : σ.Ok s) (hp : (a.p : Int) < s.n) (hl : σ.ar.length < 40) : (stepA s e σ a).Ok s := by
  have h1 := ok.ol
  have h2 := ok.rl
  have h3 := ok.sl
  obtain ⟨a1, a2, a3, a4⟩ := hear_ok (s := s) (e := e) (m := a.m) (t := (a.t : Nat)) (num := (σ.bg.getD a.t (0, 0)).2) (rk := (σ.ar.length : Nat)) ok.oo ok.ro (by omega) (by omega) (by omega) (by omega) hp
  obtain ⟨b1, b2⟩ := srtR_ok a3
  unfold stepA
  refine ⟨ok.bl, ?_, a1, ?_, b1, ?_, ?_⟩
  · simp; omega
  · simp
    exact Nat.le_trans a2 (by omega)
  · simp
    rw [show arrF s e σ a = hearF s e σ.op σ.kn a.m (a.t : Nat) a.p (σ.bg.getD a.t (0, 0)).2 (σ.ar.length : Nat) from rfl, b2]
    omega
  · simp
    split
    · simp
      omega
    · omega
def stepB (σ : Std) (m n : Int) : Std := ⟨σ.bg ++ [(m, n)], σ.ar, σ.op, σ.kn, σ.sh⟩
section
variable {P : Program} {w : World} {K : PySem.W.Frag} {mg : Str → Option Value} {base : Heap}
def g_first_standing : List D → D → Prop := fun ds d => ∃ (s : Snd) (r : Roa) (e : Ear), ds = [bookD s r e] ∧ d = std0.d e
theorem ok_first_standing (E : Env1 K mg) : Cl P w K mg base 1 "first_standing" (pureC g_first_standing) := by
  have nd : (["book"] : List Str).Nodup := by decide +kernel
  refine cl_ok (N := ["book"]) (ps := ["book"]) (E.T.at 29) ⟨rfl, rfl, rfl, nd, rfl, by decide +kernel, by decide +kernel⟩ (fun _ _ _ _ _ _ us hl => match us, hl with | [_], _ => rfl) ?_ ?_
  · rintro M ds os d os1 ⟨_, s, r, e, rfl, _⟩
    rfl
  · rintro f cdv A outer sh H E0 hr M ds os d os1 ⟨rfl, s, r, e, rfl, rfl⟩
    exact
    stm_ret (ev_tup (arg_cons (ev_ixT (ev_var 0 rfl) ev_int rfl) (arg_cons (ev_tup arg_nil) (arg_cons (ev_tup arg_nil) (arg_cons (ev_tup arg_nil) (arg_cons (ev_tup arg_nil) (arg_cons (ev_tup arg_nil) arg_nil))))))) ⟨rfl, rfl⟩
def g_with_begin : List D → D → Prop := fun ds d => ∃ (s : Snd) (e : Ear) (σ : Std) (m n : Int), ds = [σ.d e, .int m, .int n] ∧ σ.bg.length ≤ 40 ∧ d = .tup [(stepB σ m n).d e, .int (σ.bg.length : Nat)]
theorem ok_with_begin (E : Env1 K mg) : Cl P w K mg base 1 "with_begin" (pureC g_with_begin) := by
  have nd : (["standing", "moment", "number", "hearer", "begins", "rest"] : List Str).Nodup := by decide +kernel
  refine cl_ok (N := ["standing", "moment", "number", "hearer", "begins", "rest"]) (ps := ["standing", "moment", "number"]) (E.T.at 30) ⟨rfl, rfl, rfl, nd, rfl, by decide +kernel, by decide +kernel⟩ (fun _ _ _ _ _ _ us hl => match us, hl with | [_, _, _], _ => rfl) ?_ ?_
  · rintro M ds os d os1 ⟨_, s, e, σ, m, n, rfl, _⟩
    rfl
  · rintro f cdv A outer sh H E0 hr M ds os d os1 ⟨rfl, s, e, σ, m, n, rfl, hl, rfl⟩
    refine
    stm_rest (ev_var 0 rfl) (tgts_cons (tgt_name 3 nd) (tgts_cons (tgt_name 4 nd) (tgts_rest (tgt_name 5 nd)))) rfl (Nat.le_of_ble_eq_true rfl) (Nat.le_of_ble_eq_true rfl) rfl <|
    stm_ret (ev_eq (ev_tup (arg_cons (ev_tup (arg_cons (ev_var 3 rfl) (arg_cons (ev_tup (arg_starT (ev_var 4 rfl) (arg_cons (ev_tup (arg_cons (ev_var 1 rfl) (arg_cons (ev_var 2 rfl) arg_nil))) arg_nil)) (by simp; omega)) (arg_starL (ev_var 5 rfl) arg_nil)))) (arg_cons (ev_bi b_lenT E.B.len boot_len (arg_cons (ev_var 4 rfl) arg_nil)) arg_nil))) ?_) ⟨rfl, rfl⟩
    rw [List.length_map]
    unfold stepB Std.d
    rw [List.map_append] <;> rfl
def g_with_arrival : List D → D → Prop := fun ds d => ∃ (s : Snd) (r : Roa) (e : Ear) (σ : Std) (a : Arr), ds = [bookD s r e, σ.d e, a.d] ∧ s.Ok ∧ e.Ok ∧ σ.Ok s ∧ a.t < σ.bg.length ∧ (a.p : Int) < s.n ∧ σ.ar.length < 40 ∧ d = .tup [(stepA s e σ a).d e, ansA s e σ a]
theorem ok_with_arrival (E : Env1 K mg) : Cl P w K mg base 4 "with_arrival" (pureC g_with_arrival) := by
  have nd : (["book", "standing", "arrival", "number", "known", "late", "hearer", "begins", "arrivals", "opens", "showings", "book_now", "remembered", "left", "step", "pair", "one"] : List Str).Nodup := by decide +kernel
  refine cl_ok (N := ["book", "standing", "arrival", "number", "known", "late", "hearer", "begins", "arrivals", "opens", "showings", "book_now", "remembered", "left", "step", "pair", "one"]) (ps := ["book", "standing", "arrival"]) (E.T.at 31) ⟨rfl, rfl, rfl, nd, rfl, by decide +kernel, by decide +kernel⟩ (fun _ _ _ _ _ _ us hl => match us, hl with | [_, _, _], _ => rfl) ?_ ?_
  · rintro M ds os d os1 ⟨_, s, r, e, σ, a, rfl, _⟩
    rfl
  · rintro f cdv A outer sh H E0 hr M ds os d os1 ⟨rfl, s, r, e, σ, a, rfl, so, eo, ok, ht, hp, hl, rfl⟩
    have h1 := ok.ol
    have h2 := ok.rl
    have h3 := ok.sl
    obtain ⟨a1, a2, a3, a4⟩ := hear_ok (s := s) (e := e) (m := a.m) (t := (a.t : Nat)) (num := (σ.bg.getD a.t (0, 0)).2) (rk := (σ.ar.length : Nat)) ok.oo ok.ro (by omega) (by omega) (by omega) (by omega) hp
    obtain ⟨b1, b2⟩ := srtR_ok a3
    have hbg : atI (σ.bg.map pD) (a.t : Nat) = some (pD (σ.bg.getD a.t (0, 0))) := by
      refine atI_nat ?_
      rw [List.getElem?_map, List.getElem?_eq_getElem ht, List.getD_eq_getElem?_getD, List.getElem?_eq_getElem ht] <;> rfl
    have hst : stepA s e σ a = ⟨σ.bg, σ.ar ++ [a], (arrF s e σ a).l, srtR (arrF s e σ a).r, if (arrF s e σ a).s.isSome then σ.sh ++ [(arrF s e σ a).s] else σ.sh⟩ := rfl
    have hans : ansA s e σ a = .tup [.str (arrF s e σ a).w, ooN (arrF s e σ a).o, .bl (arrF s e σ a).s.isSome] := rfl
    have hF : hearF s e σ.op σ.kn a.m (a.t : Nat) a.p (σ.bg.getD a.t (0, 0)).2 (σ.ar.length : Nat) = arrF s e σ a := rfl
    rw [hF] at a1 a2 a3 a4 b1 b2
    rw [hst, hans]
    clear hst hans
    have hkn : (isort ((arrF s e σ a).r.map (·.1))).length ≤ 60 := by
      rw [(isort_perm _).length_eq, List.length_map]
      exact a3.len
    refine
    stm_asg (ev_var 1 rfl) (tgt_tup rfl (tgts_cons (tgt_name 6 nd) (tgts_cons (tgt_name 7 nd) (tgts_cons (tgt_name 8 nd) (tgts_cons (tgt_name 9 nd) (tgts_cons (tgt_name 4 nd) (tgts_cons (tgt_name 10 nd) tgts_nil)))))) (fCons_len (fCons_len (fCons_len (fCons_len (fCons_len (fCons_len fNil_len))))))) rfl <|
    stm_env [some (bookD s r e), some (σ.d e), some a.d, none, some (.tup (σ.kn.map pD)), none, some e.d, some (.tup (σ.bg.map pD)), some (.tup (σ.ar.map Arr.d)), some (.tup (σ.op.map Opn.d)), some (.tup (σ.sh.map shwD)), none, none, none, none, none, none] rfl <|
    stm_set 3 (ev_ixT (ev_ixT (ev_var 7 rfl) (ev_ixT (i := 1) (ev_var 2 rfl) ev_int rfl) hbg) ev_int rfl) nd <|
    stm_asg (ev_tup (arg_cons (ev_tup (arg_starT (ev_cutT (ev_var 0 rfl) prt_no (prt_yes ev_int)) (arg_cons (ev_var 6 rfl) arg_nil)) (by simp [cutD]; omega)) (arg_cons (ev_dc0 (own := [("pair", 15)]) σ.kn pD (fun q => q.1) (fun q => .int q.2) (wk_tup (ev_var 4 rfl)) (blkOk_by (by kernel_rfl)) (fun _ _ _ _ _ _ => (tgt_name 15 nd)) (fun x hx => ⟨_, rfl, fun A o s2 H C cl fp => ⟨ev_ixT (ev_var 15 rfl) ev_int rfl, ev_ixT (ev_var 15 rfl) ev_int rfl⟩⟩) ok.ro.nd (by omega) rfl nd) arg_nil))) (tgt_tup rfl (tgts_cons (tgt_name 11 nd) (tgts_cons (tgt_name 12 nd) tgts_nil)) (fCons_len (fCons_len fNil_len))) rfl <|
    stm_env [some (bookD s r e), some (σ.d e), some a.d, some (.int (σ.bg.getD a.t (0, 0)).2), some (.tup (σ.kn.map pD)), none, some e.d, some (.tup (σ.bg.map pD)), some (.tup (σ.ar.map Arr.d)), some (.tup (σ.op.map Opn.d)), some (.tup (σ.sh.map shwD)), some (bookD s r e), some (remD σ.kn), none, none, none, none] rfl <|
    stm_asg (ev_callP (ok_hear_one E) hr (arg_cons (ev_var 11 rfl) (arg_cons (ev_bt b_lstT E.B.list boot_list (arg_cons (ev_var 9 rfl) arg_nil)) (arg_cons (ev_var 12 rfl) (arg_cons (ev_var 2 rfl) (arg_cons (ev_var 3 rfl) (arg_cons (ev_bi b_lenT E.B.len boot_len (arg_cons (ev_var 8 rfl) arg_nil)) arg_nil)))))) ⟨s, r, e, σ.op, σ.kn, a.m, (a.t : Nat), a.p, (σ.bg.getD a.t (0, 0)).2, (σ.ar.length : Nat), by rw [List.length_map] <;> rfl, so, eo, ok.oo, ok.ro, by omega, by omega, by omega, by omega, hp, rfl⟩) (tgt_tup rfl (tgts_cons (tgt_name 13 nd) (tgts_cons (tgt_name 12 nd) (tgts_cons (tgt_name 14 nd) tgts_nil))) (fCons_len (fCons_len (fCons_len fNil_len)))) rfl ?_
    rw [hF]
    generalize arrF s e σ a = h at *
    refine
    stm_env [some (bookD s r e), some (σ.d e), some a.d, some (.int (σ.bg.getD a.t (0, 0)).2), some (.tup (σ.kn.map pD)), none, some e.d, some (.tup (σ.bg.map pD)), some (.tup (σ.ar.map Arr.d)), some (.tup (σ.op.map Opn.d)), some (.tup (σ.sh.map shwD)), some (bookD s r e), some (remD h.r), some (opsD h.l), some (.tup [.str h.w, ooD h.o, shwD h.s, opsD h.g, txD h.b]), none, none] rfl <|
    stm_set 4 (ev_bt b_tupL E.B.tuple boot_tuple (arg_cons (ev_lc0 (own := [("one", 16)]) (isort (h.r.map (·.1))) D.int (fun k => pD (k, getR h.r k)) (wk_lst (ev_bi (b_sortedD (ns := h.r.map (·.1)) (ds := h.r.map fun q => .int q.2) rfl (by rw [List.length_map]; have := a3.len; omega)) E.B.sorted boot_sorted (arg_cons (ev_eq (ev_var 12 rfl) ?_) arg_nil))) (blkOk_by (by kernel_rfl)) (fun _ _ _ _ _ _ => (tgt_name 16 nd)) (fun x hx => ⟨_, rfl, fun L acc s2 H C cl fp => ?_⟩) (by omega) rfl nd) arg_nil)) nd <|
    stm_env [some (bookD s r e), some (σ.d e), some a.d, some (.int (σ.bg.getD a.t (0, 0)).2), some (.tup ((srtR h.r).map pD)), none, some e.d, some (.tup (σ.bg.map pD)), some (.tup (σ.ar.map Arr.d)), some (.tup (σ.op.map Opn.d)), some (.tup (σ.sh.map shwD)), some (bookD s r e), some (remD h.r), some (opsD h.l), some (.tup [.str h.w, ooD h.o, shwD h.s, opsD h.g, txD h.b]), none, none] ?_ <|
    stm_if (fun δ' os' => os' = os1 ∧ δ' = [some (bookD s r e), some (σ.d e), some a.d, some (.int (σ.bg.getD a.t (0, 0)).2), some (.tup ((srtR h.r).map pD)), none, some e.d, some (.tup (σ.bg.map pD)), some (.tup (σ.ar.map Arr.d)), some (.tup (σ.op.map Opn.d)), some (.tup ((if h.s.isSome then σ.sh ++ [h.s] else σ.sh).map shwD)), some (bookD s r e), some (remD h.r), some (opsD h.l), some (.tup [.str h.w, ooD h.o, shwD h.s, opsD h.g, txD h.b]), none, none]) (tst_cmp c_notN (ev_ixT (ev_var 14 rfl) ev_int rfl) ev_non) (fun h1 => ?_) (fun h2 => ?_) fun δ' os' hN => ?_
    · unfold remD
      rw [List.map_map] <;> rfl
    · have hm := (isort_perm _).mem_iff.mp hx
      obtain ⟨q, hq1, hq2⟩ := List.mem_map.mp hm
      obtain ⟨n, hn⟩ := List.getElem?_of_mem hq1
      refine ev_tup (arg_cons (ev_var 16 rfl) (arg_cons (ev_dget (ks := h.r.map fun q => Sum.inl q.1) (ds := h.r.map fun q => .int q.2) (d := .int (getR h.r x)) n hr (ev_var 12 rfl) (ev_var 16 rfl) ?_ ?_ ?_) arg_nil))
      · rw [List.getElem?_map, hn, ← hq2] <;> rfl
      · rw [List.getElem?_map, hn, ← hq2, getR_at a3.nd hn] <;> rfl
      · rw [show (h.r.map fun q => (Sum.inl q.1 : Key)) = (h.r.map (·.1)).map Sum.inl by rw [List.map_map] <;> rfl]
        exact a3.nd.map _ fun a b h z => h (Sum.inl.inj z)
    · unfold srtR
      rw [List.map_map] <;> rfl
    · have hs : h.s.isSome = true := by
        revert h1
        cases h.s <;> simp [shwD, D.isNon]
      refine stm_set 10 (ev_tup (arg_starT (ev_var 10 rfl) (arg_cons (ev_ixT (ev_var 14 rfl) ev_int rfl) arg_nil)) (by simp; omega)) nd <|
      stm_nil ⟨rfl, ?_⟩
      rw [if_pos hs, List.map_append] <;> rfl
    · have hs : ¬ h.s.isSome = true := by
        revert h2
        cases h.s <;> simp [shwD, D.isNon]
      refine stm_nil ⟨rfl, ?_⟩
      rw [if_neg hs]
    · obtain ⟨rfl, rfl⟩ := hN
      refine
      stm_set 5 (ev_eq (d := Std.d e ⟨σ.bg, σ.ar ++ [a], h.l, srtR h.r, if h.s.isSome then σ.sh ++ [h.s] else σ.sh⟩) (ev_tup (arg_cons (ev_var 6 rfl) (arg_cons (ev_var 7 rfl) (arg_cons (ev_tup (arg_starT (ev_var 8 rfl) (arg_cons (ev_var 2 rfl) arg_nil)) (by simp; omega)) (arg_cons (ev_bt b_tupL E.B.tuple boot_tuple (arg_cons (ev_var 13 rfl) arg_nil)) (arg_cons (ev_var 4 rfl) (arg_cons (ev_var 10 rfl) arg_nil))))))) ?_) nd <|
      stm_ret (ev_tup (arg_cons (ev_var 5 rfl) (arg_cons (ev_tup (arg_cons (ev_ixT (ev_var 14 rfl) ev_int rfl) (arg_cons (ev_if (d := ooN h.o) (tst_cmp c_isN (ev_ixT (ev_var 14 rfl) ev_int rfl) ev_non) (fun h3 => ev_eq ev_non ?_) fun h4 => ?_) (arg_cons (ev_eq (d := .bl h.s.isSome) (ev_cmp c_notN (ev_ixT (ev_var 14 rfl) ev_int rfl) ev_non) ?_) arg_nil)))) arg_nil))) ⟨rfl, rfl⟩
      · unfold Std.d
        rw [List.map_append] <;> rfl
      · revert h3
        cases h.o <;> simp [ooD, ooN, D.isNon, Opn.d]
      · cases ho : h.o with
        | none =>
          rw [ho] at h4
          cases h4
        | some o => exact ev_ixT (ds := [.int o.num, .int o.op, .int o.hd, txD o.tx, .int o.rk]) (ev_ixT (ev_var 14 rfl) ev_int rfl) ev_int rfl
      · cases h.s with
        | none => rfl
        | some q => rfl
end
end PW
namespace PW
open PySem PySem.Spec PyProof.Rows L2
inductive Evt where
  | beg (m n : Int)
  | hea (a : Arr)
def Evt.d : Evt → D
  | .beg m n => .tup [.str "begin", .int m, .int n]
  | .hea a => .tup [.str "hear", .int a.m, .int (a.t : Nat), .int (a.p : Nat)]
structure BegOk (s : Snd) (σ : Std) (m n : Int) : Prop where
  n0 : 0 ≤ n
  n1 : n < s.m
  nx : ∀ q, σ.bg.getLast? = some q → n = (q.2 + 1) % s.m ∧ s.a ≤ m - q.1 ∧ m - q.1 ≤ s.b
  bl : σ.bg.length < 40
structure HeaOk (s : Snd) (r : Roa) (σ : Std) (a : Arr) : Prop where
  tl : a.t < σ.bg.length
  p1 : (a.p : Int) < s.n
  lo : (σ.bg.getD a.t (0, 0)).1 + r.p ≤ a.m
  hi : a.m ≤ (σ.bg.getD a.t (0, 0)).1 + r.p + r.q
  od : ∀ q, σ.ar.getLast? = some q → q.m ≤ a.m
  cp : ((σ.ar.countP fun q => decide (q.t = a.t ∧ q.p = a.p) : Nat) : Int) < s.c
  al : σ.ar.length < 40
def EvtOk (s : Snd) (r : Roa) (σ : Std) : Evt → Prop
  | .beg m n => BegOk s σ m n
  | .hea a => HeaOk s r σ a
def stepF (s : Snd) (e : Ear) (σ : Std) : Evt → Std
  | .beg m n => stepB σ m n
  | .hea a => stepA s e σ a
def ansF (s : Snd) (e : Ear) (σ : Std) : Evt → D
  | .beg m n => .int (σ.bg.length : Nat)
  | .hea a => ansA s e σ a
theorem stepF_ok {s : Snd} {r : Roa} {e : Ear} {σ : Std} {v : Evt} (so : s.Ok) (ok : σ.Ok s) (h : EvtOk s r σ v) : (stepF s e σ v).Ok s := by
  cases v with
  | beg m n =>
    have := BegOk.bl h
    exact ⟨by show (σ.bg ++ [(m, n)]).length ≤ 40; simp; omega, ok.al, ok.oo, ok.ol, ok.ro, ok.rl, ok.sl⟩
  | hea a => exact stepA_ok so ok (HeaOk.p1 h) (HeaOk.al h)
theorem okV (v : Evt) : okD 4 v.d = true := by
  cases v with
  | beg m n => rw [show (Evt.beg m n).d = .tup [.str "begin", .int m, .int n] from rfl]; simp [okD, okA]; decide +kernel
  | hea a => rw [show (Evt.hea a).d = .tup [.str "hear", .int a.m, .int (a.t : Nat), .int (a.p : Nat)] from rfl]; simp [okD, okA]; decide +kernel
theorem okP (l : List (Int × Int)) : okD 4 (.tup (l.map pD)) = true := by
  simp only [okD]
  exact okA_map fun h _ => rfl
theorem okAr (l : List Arr) : okD 4 (.tup (l.map Arr.d)) = true := by
  simp only [okD]
  exact okA_map fun h _ => rfl
section
variable {P : Program} {w : World} {K : PySem.W.Frag} {mg : Str → Option Value} {base : Heap}
def g_is_event : List D → D → Prop := fun ds d => ∃ (v : Evt), ds = [v.d] ∧ (∀ m n, v = .beg m n → 0 ≤ n) ∧ d = .bl true
theorem ok_is_event (E : Env1 K mg) : Cl P w K mg base 5 "is_event" (pureC g_is_event) := by
  have nd : (["thing"] : List Str).Nodup := by decide +kernel
  refine cl_ok (N := ["thing"]) (ps := ["thing"]) (E.T.at 32) ⟨rfl, rfl, rfl, nd, rfl, by decide +kernel, by decide +kernel⟩ (fun _ _ _ _ _ _ us hl => match us, hl with | [_], _ => rfl) ?_ ?_
  · rintro M ds os d os1 ⟨_, v, rfl, _⟩
    rfl
  · rintro f cdv A outer sh H E0 hr M ds os d os1 ⟨rfl, v, rfl, hv, rfl⟩
    cases v with
    | beg m n =>
      have h0 := hv m n rfl
      exact
      stm_ifF (tst_eq (tst_w (tsw_or (tst_not (tst_val (ev_bi (b_isi (fun _ _ => ty_tup) kit_tup_tup) E.B.isinstance boot_isinstance (arg_cons (ev_var 0 rfl) (arg_cons (ev_ty E.B.tuple boot_tuple) arg_nil))))) fun h4 => (tsw_or (tst_eq (tst_cmp (c_eqD (n := 4) hr (okV _) rfl) (ev_var 0 rfl) (ev_tup arg_nil)) (eqD_nilT _)) fun h3 => (tsw_or1 (tst_not (tst_val (ev_bi (b_isi (fun _ _ => ty_str) kit_str_str) E.B.isinstance boot_isinstance (arg_cons (ev_ixT (ev_var 0 rfl) ev_int rfl) (arg_cons (ev_ty E.B.str boot_str) arg_nil))))))))) rfl) <|
      stm_ifR (bl := true) (tst_eq (tst_cmp c_eqS (ev_ixT (ev_var 0 rfl) ev_int rfl) ev_str) (decide_eq_true rfl)) (fun h5 =>
        stm_ret (ev_eq (d := .bl true) (ev_and (ev_cmp c_eqI (ev_bi b_lenT E.B.len boot_len (arg_cons (ev_var 0 rfl) arg_nil)) ev_int) fun h8 => (ev_and (ev_callP (ok_is_integer E) hr (arg_cons (ev_ixT (ev_var 0 rfl) ev_int rfl) arg_nil) ⟨_, rfl, rfl⟩) fun h7 => (ev_one (ev_callP (ok_is_number E) hr (arg_cons (ev_ixT (ev_var 0 rfl) ev_int rfl) arg_nil) ⟨_, rfl, rfl⟩)))) (by simp [h0])) ⟨rfl, rfl⟩) fun h6 => by cases h6
    | hea a =>
      exact
      stm_ifF (tst_eq (tst_w (tsw_or (tst_not (tst_val (ev_bi (b_isi (fun _ _ => ty_tup) kit_tup_tup) E.B.isinstance boot_isinstance (arg_cons (ev_var 0 rfl) (arg_cons (ev_ty E.B.tuple boot_tuple) arg_nil))))) fun h4 => (tsw_or (tst_eq (tst_cmp (c_eqD (n := 4) hr (okV _) rfl) (ev_var 0 rfl) (ev_tup arg_nil)) (eqD_nilT _)) fun h3 => (tsw_or1 (tst_not (tst_val (ev_bi (b_isi (fun _ _ => ty_str) kit_str_str) E.B.isinstance boot_isinstance (arg_cons (ev_ixT (ev_var 0 rfl) ev_int rfl) (arg_cons (ev_ty E.B.str boot_str) arg_nil))))))))) rfl) <|
      stm_ifF (tst_eq (tst_cmp c_eqS (ev_ixT (ev_var 0 rfl) ev_int rfl) ev_str) (by decide +kernel)) <|
      stm_ifR (bl := true) (tst_eq (tst_cmp c_eqS (ev_ixT (ev_var 0 rfl) ev_int rfl) ev_str) (decide_eq_true rfl)) (fun h9 =>
        stm_ret (ev_eq (d := .bl true) (ev_and (ev_cmp c_eqI (ev_bi b_lenT E.B.len boot_len (arg_cons (ev_var 0 rfl) arg_nil)) ev_int) fun h13 => (ev_and (ev_callP (ok_is_integer E) hr (arg_cons (ev_ixT (ev_var 0 rfl) ev_int rfl) arg_nil) ⟨_, rfl, rfl⟩) fun h12 => (ev_and (ev_callP (ok_is_number E) hr (arg_cons (ev_ixT (ev_var 0 rfl) ev_int rfl) arg_nil) ⟨_, rfl, rfl⟩) fun h11 => (ev_one (ev_callP (ok_is_number E) hr (arg_cons (ev_ixT (ev_var 0 rfl) ev_int rfl) arg_nil) ⟨_, rfl, rfl⟩))))) (by simp)) ⟨rfl, rfl⟩) fun h6 => by cases h6
def g_begin_reason : List D → D → Prop := fun ds d => ∃ (s : Snd) (σ : Std) (m n : Int), ds = [s.d, .tup (σ.bg.map pD), .int m, .int n] ∧ s.Ok ∧ BegOk s σ m n ∧ d = .non
theorem ok_begin_reason (E : Env1 K mg) : Cl P w K mg base 1 "begin_reason" (pureC g_begin_reason) := by
  have nd : (["sender", "begins", "moment", "number", "a", "b", "n", "copies", "numbers", "pause", "gap", "later"] : List Str).Nodup := by decide +kernel
  refine cl_ok (N := ["sender", "begins", "moment", "number", "a", "b", "n", "copies", "numbers", "pause", "gap", "later"]) (ps := ["sender", "begins", "moment", "number"]) (E.T.at 33) ⟨rfl, rfl, rfl, nd, rfl, by decide +kernel, by decide +kernel⟩ (fun _ _ _ _ _ _ us hl => match us, hl with | [_, _, _, _], _ => rfl) ?_ ?_
  · rintro M ds os d os1 ⟨_, s, σ, m, n, rfl, _⟩
    rfl
  · rintro f cdv A outer sh H E0 hr M ds os d os1 ⟨rfl, s, σ, m, n, rfl, so, ok, rfl⟩
    have m1 := so.m1
    have n1 := ok.n1
    refine
    stm_asg (ev_var 0 rfl) (tgt_tup rfl (tgts_cons (tgt_name 4 nd) (tgts_cons (tgt_name 5 nd) (tgts_cons (tgt_name 6 nd) (tgts_cons (tgt_name 7 nd) (tgts_cons (tgt_name 8 nd) (tgts_cons (tgt_name 9 nd) tgts_nil)))))) (fCons_len (fCons_len (fCons_len (fCons_len (fCons_len (fCons_len fNil_len))))))) rfl <|
    stm_env [some s.d, some (.tup (σ.bg.map pD)), some (.int m), some (.int n), some (.int s.a), some (.int s.b), some (.int s.n), some (.int s.c), some (.int s.m), some .non, none, none] rfl <|
    stm_ifF (tst_eq (tst_cmp c_ge (ev_var 3 rfl) (ev_var 8 rfl)) (decide_eq_false (by omega))) <|
    stm_ifR (tst_eq (tst_cmp (c_eqD (n := 4) hr (okP _) rfl) (ev_var 1 rfl) (ev_tup arg_nil)) (eqD_nilT _)) (fun h3 =>
      stm_ret ev_non ⟨rfl, rfl⟩) fun h4 => ?_
    have hne : σ.bg ≠ [] := fun z => by
      rw [z] at h4
      cases h4
    obtain ⟨q, hq⟩ : ∃ q, σ.bg.getLast? = some q := by
      cases hb : σ.bg.getLast? with
      | none => exact absurd (List.getLast?_eq_none_iff.mp hb) hne
      | some q => exact ⟨q, rfl⟩
    obtain ⟨e1, e2, e3⟩ := ok.nx q hq
    have hat : atI (σ.bg.map pD) (-1) = some (pD q) := atI_lastX (by rw [List.getLast?_map, hq] <;> rfl)
    exact
    stm_par2 10 11 (arg_cons (ev_sub (ev_var 2 rfl) (ev_ixT (ev_ixT (ev_var 1 rfl) (ev_neg ev_int) hat) ev_int rfl)) (arg_cons (ev_mod (ev_add (ev_ixT (ev_ixT (ev_var 1 rfl) (ev_neg ev_int) hat) ev_int rfl) ev_int) (ev_var 8 rfl) (by omega)) arg_nil)) rfl nd <|
    stm_ifR (bl := true) (tst_eq (tst_w (tsw_and (tst_cmp c_eqI (ev_var 3 rfl) (ev_var 11 rfl)) fun h7 => (tsw_and1 (tst_chain c_le c_le (ev_var 4 rfl) (ev_var 10 rfl) (ev_var 5 rfl) fun _ => rfl)))) (by simp; omega)) (fun h5 =>
      stm_ret ev_non ⟨rfl, rfl⟩) fun h6 => by cases h6
def g_span_of_text : List D → D → Prop := fun ds d => ∃ (r : Roa) (l : List (Int × Int)) (t : Nat), ds = [r.d, .tup (l.map pD), .int (t : Nat)] ∧ t < l.length ∧ d = .tup [.int ((l.getD t (0, 0)).1 + r.p), .int ((l.getD t (0, 0)).1 + r.p + r.q)]
theorem pD_at {l : List (Int × Int)} {t : Nat} (h : t < l.length) : atI (l.map pD) (t : Nat) = some (pD (l.getD t (0, 0))) := by
  refine atI_nat ?_
  rw [List.getElem?_map, List.getElem?_eq_getElem h, List.getD_eq_getElem?_getD, List.getElem?_eq_getElem h] <;> rfl
theorem ok_span_of_text (E : Env1 K mg) : Cl P w K mg base 1 "span_of_text" (pureC g_span_of_text) := by
  have nd : (["road", "begins", "text"] : List Str).Nodup := by decide +kernel
  refine cl_ok (N := ["road", "begins", "text"]) (ps := ["road", "begins", "text"]) (E.T.at 34) ⟨rfl, rfl, rfl, nd, rfl, by decide +kernel, by decide +kernel⟩ (fun _ _ _ _ _ _ us hl => match us, hl with | [_, _, _], _ => rfl) ?_ ?_
  · rintro M ds os d os1 ⟨_, r, l, t, rfl, _⟩
    rfl
  · rintro f cdv A outer sh H E0 hr M ds os d os1 ⟨rfl, r, l, t, rfl, ht, rfl⟩
    exact
    stm_ret (ev_tup (arg_cons (ev_add (ev_ixT (ev_ixT (ev_var 1 rfl) (ev_var 2 rfl) (pD_at ht)) ev_int rfl) (ev_ixT (ev_var 0 rfl) ev_int rfl)) (arg_cons (ev_add (ev_add (ev_ixT (ev_ixT (ev_var 1 rfl) (ev_var 2 rfl) (pD_at ht)) ev_int rfl) (ev_ixT (ev_var 0 rfl) ev_int rfl)) (ev_ixT (ev_var 0 rfl) ev_int rfl)) arg_nil))) ⟨rfl, rfl⟩
def g_hear_reason : List D → D → Prop := fun ds d => ∃ (s : Snd) (r : Roa) (e : Ear) (σ : Std) (a : Arr), ds = [bookD s r e, .tup (σ.bg.map pD), .tup (σ.ar.map Arr.d), a.d] ∧ s.Ok ∧ HeaOk s r σ a ∧ d = .non
theorem ok_hear_reason (E : Env1 K mg) : Cl P w K mg base 2 "hear_reason" (pureC g_hear_reason) := by
  have nd : (["book", "begins", "arrivals", "arrival", "elder", "moment", "text", "part", "least", "greatest", "one"] : List Str).Nodup := by decide +kernel
  refine cl_ok (N := ["book", "begins", "arrivals", "arrival", "elder", "moment", "text", "part", "least", "greatest", "one"]) (ps := ["book", "begins", "arrivals", "arrival"]) (E.T.at 35) ⟨rfl, rfl, rfl, nd, rfl, by decide +kernel, by decide +kernel⟩ (fun _ _ _ _ _ _ us hl => match us, hl with | [_, _, _, _], _ => rfl) ?_ ?_
  · rintro M ds os d os1 ⟨_, s, r, e, σ, a, rfl, _⟩
    rfl
  · rintro f cdv A outer sh H E0 hr M ds os d os1 ⟨rfl, s, r, e, σ, a, rfl, so, ok, rfl⟩
    have tl := ok.tl
    have p1 := ok.p1
    have lo := ok.lo
    have hi := ok.hi
    have al := ok.al
    have cp := ok.cp
    refine
    stm_asg (ev_var 3 rfl) (tgt_tup rfl (tgts_cons (tgt_name 5 nd) (tgts_cons (tgt_name 6 nd) (tgts_cons (tgt_name 7 nd) tgts_nil))) (fCons_len (fCons_len (fCons_len fNil_len)))) rfl <|
    stm_env [some (bookD s r e), some (.tup (σ.bg.map pD)), some (.tup (σ.ar.map Arr.d)), some a.d, none, some (.int a.m), some (.int (a.t : Nat)), some (.int (a.p : Nat)), none, none, none] rfl <|
    stm_ifF (tst_eq (tst_cmp c_ge (ev_var 6 rfl) (ev_bi b_lenT E.B.len boot_len (arg_cons (ev_var 1 rfl) arg_nil))) (decide_eq_false (by rw [List.length_map]; omega))) <|
    stm_ifF (tst_eq (tst_cmp c_ge (ev_var 7 rfl) (ev_ixT (i := 2) (ev_ixT (i := 0) (ev_var 0 rfl) ev_int rfl) ev_int rfl)) (decide_eq_false (by omega))) <|
    stm_asg (ev_callP (ok_span_of_text E) hr (arg_cons (ev_ixT (ev_var 0 rfl) ev_int rfl) (arg_cons (ev_var 1 rfl) (arg_cons (ev_var 6 rfl) arg_nil))) ⟨r, σ.bg, a.t, rfl, tl, rfl⟩) (tgt_tup rfl (tgts_cons (tgt_name 8 nd) (tgts_cons (tgt_name 9 nd) tgts_nil)) (fCons_len (fCons_len fNil_len))) rfl <|
    stm_ifF (tst_eq (tst_not (tst_chain c_le c_le (ev_var 8 rfl) (ev_var 5 rfl) (ev_var 9 rfl) fun _ => rfl)) (by rw [decide_eq_true lo, decide_eq_true hi] <;> rfl)) <|
    stm_ifF (tst_eq (b' := false) (tst_w (tsw_and (k' := match σ.ar.getLast? with | none => false | some q => decide (a.m < q.m)) (tst_eq (tst_cmp (c_neD (n := 4) hr (okAr _) rfl) (ev_var 2 rfl) (ev_tup arg_nil)) (congrArg (fun b => !b) (eqD_nilT _))) fun h9 => ?_)) ?_) <|
    stm_setLc 4 (own := [("one", 10)]) σ.ar Arr.d (fun q => decide ([(q.t : Int), (q.p : Int)] = [(a.t : Int), (a.p : Int)])) Arr.d (wk_tup (ev_var 2 rfl)) (blkOk_by (by kernel_rfl)) (fun _ _ _ _ _ _ => (tgt_name 10 nd)) (fun x hx => ⟨_, rfl, fun L acc => ⟨fun s H C cl fp => (tsts_one (tst_eq (tst_cmp (c_eqD (n := 4) hr rfl rfl) (ev_eq (d := .tup ([(x.t : Int), (x.p : Int)].map D.int)) (ev_cutT (ev_var 10 rfl) (prt_yes ev_int) prt_no) rfl) (ev_eq (d := .tup ([(a.t : Int), (a.p : Int)].map D.int)) (ev_cutT (ev_var 3 rfl) (prt_yes ev_int) prt_no) rfl)) (eqD_intsT _ _))), fun hp s H C cl fp => (ev_var 10 rfl)⟩⟩) (by omega) rfl nd <|
    stm_ret (ev_ifF (tst_eq (tst_cmp c_ge (ev_bi b_lenL E.B.len boot_len (arg_cons (ev_var 4 rfl) arg_nil)) (ev_ixT (i := 3) (ev_ixT (i := 0) (ev_var 0 rfl) ev_int rfl) ev_int rfl)) (decide_eq_false ?_)) ev_non) ⟨rfl, rfl⟩
    · have hne : σ.ar ≠ [] := fun z => by
        rw [z] at h9
        cases h9
      obtain ⟨q, hq⟩ : ∃ q, σ.ar.getLast? = some q := by
        cases hb : σ.ar.getLast? with
        | none => exact absurd (List.getLast?_eq_none_iff.mp hb) hne
        | some q => exact ⟨q, rfl⟩
      have hat : atI (σ.ar.map Arr.d) (-1) = some q.d := atI_lastX (by rw [List.getLast?_map, hq] <;> rfl)
      rw [hq]
      exact tsw_and1 (tst_cmp c_lt (ev_var 5 rfl) (ev_ixT (ev_ixT (ev_var 2 rfl) (ev_neg ev_int) hat) ev_int rfl))
    · cases hq : σ.ar.getLast? with
      | none => simp
      | some q =>
        have := ok.od q hq
        simp
        intro _
        omega
    · rw [List.length_map, ← List.countP_eq_length_filter]
      have e : (σ.ar.countP fun q => decide ([(q.t : Int), (q.p : Int)] = [(a.t : Int), (a.p : Int)])) = σ.ar.countP fun q => decide (q.t = a.t ∧ q.p = a.p) := by
        congr 1
        funext q
        refine decide_eq_decide.mpr ?_
        simp only [List.cons.injEq, and_true]
        omega
      rw [e]
      omega
def g_event_reason : List D → D → Prop := fun ds d => ∃ (s : Snd) (r : Roa) (e : Ear) (σ : Std) (v : Evt), ds = [bookD s r e, σ.d e, v.d] ∧ s.Ok ∧ EvtOk s r σ v ∧ d = .non
theorem ok_event_reason (E : Env1 K mg) : Cl P w K mg base 3 "event_reason" (pureC g_event_reason) := by
  have nd : (["book", "standing", "event"] : List Str).Nodup := by decide +kernel
  refine cl_ok (N := ["book", "standing", "event"]) (ps := ["book", "standing", "event"]) (E.T.at 36) ⟨rfl, rfl, rfl, nd, rfl, by decide +kernel, by decide +kernel⟩ (fun _ _ _ _ _ _ us hl => match us, hl with | [_, _, _], _ => rfl) ?_ ?_
  · rintro M ds os d os1 ⟨_, s, r, e, σ, v, rfl, _⟩
    rfl
  · rintro f cdv A outer sh H E0 hr M ds os d os1 ⟨rfl, s, r, e, σ, v, rfl, so, ok, rfl⟩
    cases v with
    | beg m n =>
      exact
      stm_ifR (bl := true) (tst_eq (tst_cmp c_eqS (ev_ixT (ev_var 2 rfl) ev_int rfl) ev_str) (decide_eq_true rfl)) (fun h1 =>
      stm_ret (ev_callP (ok_begin_reason E) hr (arg_cons (ev_ixT (ev_var 0 rfl) ev_int rfl) (arg_cons (ev_ixT (ev_var 1 rfl) ev_int rfl) (arg_cons (ev_ixT (ev_var 2 rfl) ev_int rfl) (arg_cons (ev_ixT (ev_var 2 rfl) ev_int rfl) arg_nil)))) ⟨s, σ, m, n, rfl, so, ok, rfl⟩) ⟨rfl, rfl⟩) fun h2 => by cases h2
    | hea a =>
      exact
      stm_ifF (tst_eq (tst_cmp c_eqS (ev_ixT (ev_var 2 rfl) ev_int rfl) ev_str) (by decide +kernel)) <|
      stm_ifR (bl := true) (tst_eq (tst_cmp c_eqS (ev_ixT (ev_var 2 rfl) ev_int rfl) ev_str) (decide_eq_true rfl)) (fun h1 =>
      stm_ret (ev_callP (ok_hear_reason E) hr (arg_cons (ev_var 0 rfl) (arg_cons (ev_ixT (ev_var 1 rfl) ev_int rfl) (arg_cons (ev_ixT (ev_var 1 rfl) ev_int rfl) (arg_cons (ev_eq (d := a.d) (ev_cutT (ev_var 2 rfl) (prt_yes ev_int) prt_no) rfl) arg_nil)))) ⟨s, r, e, σ, a, rfl, so, ok, rfl⟩) ⟨rfl, rfl⟩) fun h2 => by cases h2
def g_behind : List D → D → Prop := fun ds d => ∃ (s : Snd) (r : Roa) (e : Ear) (σ : Std) (v : Evt), ds = [bookD s r e, σ.d e, v.d] ∧ s.Ok ∧ e.Ok ∧ σ.Ok s ∧ EvtOk s r σ v ∧ d = .tup [(stepF s e σ v).d e, ansF s e σ v]
theorem ok_behind (E : Env1 K mg) : Cl P w K mg base 5 "behind" (pureC g_behind) := by
  have nd : (["book", "standing", "event"] : List Str).Nodup := by decide +kernel
  refine cl_ok (N := ["book", "standing", "event"]) (ps := ["book", "standing", "event"]) (E.T.at 37) ⟨rfl, rfl, rfl, nd, rfl, by decide +kernel, by decide +kernel⟩ (fun _ _ _ _ _ _ us hl => match us, hl with | [_, _, _], _ => rfl) ?_ ?_
  · rintro M ds os d os1 ⟨_, s, r, e, σ, v, rfl, _⟩
    rfl
  · rintro f cdv A outer sh H E0 hr M ds os d os1 ⟨rfl, s, r, e, σ, v, rfl, so, eo, ok, vo, rfl⟩
    cases v with
    | beg m n =>
      exact
      stm_ifR (bl := true) (tst_eq (tst_cmp c_eqS (ev_ixT (ev_var 2 rfl) ev_int rfl) ev_str) (decide_eq_true rfl)) (fun h1 =>
      stm_ret (ev_callP (ok_with_begin E) hr (arg_cons (ev_var 1 rfl) (arg_cons (ev_ixT (ev_var 2 rfl) ev_int rfl) (arg_cons (ev_ixT (ev_var 2 rfl) ev_int rfl) arg_nil))) ⟨s, e, σ, m, n, rfl, ok.bl, rfl⟩) ⟨rfl, rfl⟩) fun h2 => by cases h2
    | hea a =>
      exact
      stm_ifF (tst_eq (tst_cmp c_eqS (ev_ixT (ev_var 2 rfl) ev_int rfl) ev_str) (by decide +kernel)) <|
      stm_ifR (bl := true) (tst_eq (tst_cmp c_eqS (ev_ixT (ev_var 2 rfl) ev_int rfl) ev_str) (decide_eq_true rfl)) (fun h1 =>
      stm_ret (ev_callP (ok_with_arrival E) hr (arg_cons (ev_var 0 rfl) (arg_cons (ev_var 1 rfl) (arg_cons (ev_eq (d := a.d) (ev_cutT (ev_var 2 rfl) (prt_yes ev_int) prt_no) rfl) arg_nil))) ⟨s, r, e, σ, a, rfl, so, eo, ok, HeaOk.tl vo, HeaOk.p1 vo, HeaOk.al vo, rfl⟩) ⟨rfl, rfl⟩) fun h2 => by cases h2
end
end PW
namespace PW
open PySem PySem.Spec PyProof.Rows L2
/-! ### instances -/
theorem lookup_at : ∀ {l : List (Str × V)} {n : Nat} {f : Str}, (l.map (·.1)).Nodup → (l.map (·.1))[n]? = some f → l.lookup f = (l.map (·.2))[n]?
  | [], n, f, _, h => by simp at h
  | p :: l, 0, f, _, h => by
    have e : p.1 = f := by simpa using h
    obtain ⟨g, v⟩ := p
    subst e
    simp [List.lookup]
  | p :: l, n + 1, f, nd, h => by
    rw [List.map_cons, List.nodup_cons] at nd
    have h' : (l.map (·.1))[n]? = some f := by simpa using h
    obtain ⟨g, v⟩ := p
    have ne : (f == g) = false := beq_eq_false_iff_ne.mpr fun z => nd.1 (by rw [← z]; exact List.mem_of_getElem? h')
    simp only [List.lookup, ne]
    rw [lookup_at nd.2 h']
    rfl
theorem lookup_no {l : List (Str × V)} {f : Str} (h : f ∉ l.map (·.1)) : l.lookup f = none := by
  induction l with
  | nil => rfl
  | cons p l ih =>
    rw [List.map_cons, List.mem_cons, not_or] at h
    obtain ⟨g, v⟩ := p
    have ne : (f == g) = false := beq_eq_false_iff_ne.mpr h.1
    simp only [List.lookup, ne]
    exact ih h.2
theorem putF_at : ∀ {l : List (Str × V)} {n : Nat} {f : Str} {y : V}, (l.map (·.1)).Nodup → (l.map (·.1))[n]? = some f → (putF f y l).map (·.1) = l.map (·.1) ∧ (putF f y l).map (·.2) = (l.map (·.2)).set n y
  | [], n, f, y, _, h => by simp at h
  | p :: l, 0, f, y, _, h => by
    have e : p.1 = f := by simpa using h
    obtain ⟨g, v⟩ := p
    rw [show putF f y ((g, v) :: l) = (if g = f then (g, y) :: l else (g, v) :: putF f y l) from rfl, if_pos e]
    exact ⟨rfl, rfl⟩
  | p :: l, n + 1, f, y, nd, h => by
    rw [List.map_cons, List.nodup_cons] at nd
    have h' : (l.map (·.1))[n]? = some f := by simpa using h
    obtain ⟨g, v⟩ := p
    have ne : ¬ g = f := fun z => nd.1 (by rw [z]; exact List.mem_of_getElem? h')
    obtain ⟨i1, i2⟩ := putF_at (y := y) nd.2 h'
    rw [show putF f y ((g, v) :: l) = (if g = f then (g, y) :: l else (g, v) :: putF f y l) from rfl, if_neg ne]
    exact ⟨by rw [List.map_cons, i1] <;> rfl, by rw [List.map_cons, i2] <;> rfl⟩
theorem putF_new : ∀ {l : List (Str × V)} {f : Str} {y : V}, f ∉ l.map (·.1) → putF f y l = l ++ [(f, y)]
  | [], f, y, _ => rfl
  | p :: l, f, y, h => by
    rw [List.map_cons, List.mem_cons, not_or] at h
    obtain ⟨g, v⟩ := p
    have ne : ¬ g = f := fun z => h.1 z.symm
    rw [show putF f y ((g, v) :: l) = (if g = f then (g, y) :: l else (g, v) :: putF f y l) from rfl, if_neg ne, putF_new h.2]
    rfl
section
variable {X : Cx} {M : List Addr} {os os1 os2 os3 : List MO} {δ δ' : List (Option D)} {a b c e : Expr} {pos p : Pos} {d : D} {ds : List D} {fs : List Str} {f : Str} {x C dx : Addr} {rest : List Stmt} {k : Kt} {j kk : Nat}
theorem Sok.ins {H : Hp} {m : Nat} (s : Sok M os H) (hi : M[m]? = some x) (ho : os[m]? = some (.ins C dx fs ds)) : ∃ l, H x = some (.ins C dx l) ∧ l.map (·.1) = fs ∧ RA M H (l.map (·.2)) ds := s.at_ m x _ hi ho
theorem ev_fld (m n : Nat) (ha : Ev X M os δ a (.adr x) os1) (hi : M[m]? = some x) (ho : os1[m]? = some (.ins C dx fs ds)) (hc : Cls X.K C) (hn : NoAttr X.K C f) (hf : fs[n]? = some f) (hd : ds[n]? = some d) (nd : fs.Nodup)
    (hb : attributeBase a f X.env (eval a X.env) = eval a X.env := by rfl) : Ev X M os δ (.Attribute a f pos) d os1 :=
  pe_imp (pe_fld ha hb) fun σ H Q ⟨s, en, q⟩ => ⟨s, en, fun v H1 k1 s1 r1 => by
    cases r1
    obtain ⟨l, h1, e1, r⟩ := s1.ins hi ho
    obtain ⟨w, hw, rw'⟩ := r.get hd
    refine ⟨x, C, dx, l, w, rfl, h1, hc, hn, ?_, q _ _ k1 s1 rw'⟩
    rw [lookup_at (by rw [e1]; exact nd) (by rw [e1]; exact hf), hw]⟩
theorem ev_con (m : Nat) {v : V} {u : Value} (ha : Ev X M os δ a (.adr x) os1) (hi : M[m]? = some x) (ho : os1[m]? = some (.ins C dx fs ds)) (hc : Cls X.K C) (hn : Con X.K C f v u) (hr : ∀ H, R M H v d) (hf : f ∉ fs)
    (hb : attributeBase a f X.env (eval a X.env) = eval a X.env := by rfl) : Ev X M os δ (.Attribute a f pos) d os1 :=
  pe_imp (pe_con ha hb) fun σ H Q ⟨s, en, q⟩ => ⟨s, en, fun w H1 k1 s1 r1 => by
    cases r1
    obtain ⟨l, h1, e1, r⟩ := s1.ins hi ho
    exact ⟨x, C, dx, l, v, u, rfl, h1, hc, hn, lookup_no (by rw [e1]; exact hf), q _ _ k1 s1 (hr _)⟩⟩
/-- o.f = e, an attribute that is there -/
theorem stm_fld (m n : Nat) {p2 : Pos} (hv : Ev X M os δ e d os1) (ha : Ev X M os1 δ a (.adr x) os2) (hi : M[m]? = some x) (ho : os2[m]? = some (.ins C dx fs ds)) (hc : Cls X.K C) (hn : NoAttr X.K C f) (hf : fs[n]? = some f) (nd : fs.Nodup) (hz : fs.length < 1000)
    (hr : Stm X M (os2.set m (.ins C dx fs (ds.set n d))) δ rest k) (hs : swapsWith e (some (.Attribute a f p2)) pos.line X.env = pure false := by rfl) : Stm X M os δ (.Assign [.Attribute a f p2] e pos :: rest) k :=
  pss_imp (pss_cons (ps_fld ha hv hs) hr) fun Dn σ H ⟨s, en, nx, r⟩ => ⟨s, en, fun v H1 k1 s1 r1 => ⟨s1, en.keep k1, fun w H2 k2 s2 r2 => by
    cases r2
    obtain ⟨l, h1, e1, rl⟩ := s2.ins hi ho
    refine ⟨x, C, dx, l, rfl, h1, hc, hn, ?_, ?_⟩
    · have := congrArg List.length e1
      rw [List.length_map] at this
      omega
    have kS : Keep M H2 (upd H2 x (.ins C dx (putF f v l))) := Keep.set (List.mem_of_getElem? hi)
    obtain ⟨e3, e4⟩ := putF_at (y := v) (l := l) (n := n) (f := f) (by rw [e1]; exact nd) (by rw [e1]; exact hf)
    have sS := s2.put (o := .ins C dx fs (ds.set n d)) hi kS (fun b hb _ => upd_ne hb) ⟨putF f v l, upd_same, by rw [e3, e1], by
      rw [e4]
      exact (rl.set (r1.keep k2) n).keep kS⟩
    exact tS_go ((k1.trans k2).trans kS) sS (((en.keep k1).keep k2).keep kS) nx r⟩⟩
/-- o.m(e, ..) -/
theorem ev_met {m : Str} {es : List Expr} {C' : Ctr} {apos : Pos} {da : List D} (i : Nat) {pl : Sem Bool} (c : C8.Met X.prog X.w X.K X.mg X.base kk C m (spR C') []) (hr : Room j X.A) (ha : Ev X M os δ a (.adr x) os1) (hi : M[i]? = some x) (ho : os1[i]? = some (.ins C dx fs ds)) (hm : m ∉ fs)
    (hg : Arg X M os1 δ (e :: es) da os2) (hC : C' M (.adr x :: da) os2 d os3) (hk : kk ≤ j := by decide)
    (hst : starEach (e :: es) X.env = (false, eval e X.env) :: starEach es X.env := by rfl) (hpl : (backTo pos (starEach es X.env)).any (·.1) = false := by rfl)
    (ht : eval (.Call (.Attribute a m apos) (e :: es) [] pos) X.env = (do
      let ov ← eval a X.env
      standAt apos.atName
      let (f, first) ← holding [ov] (getMethod ov m pl)
      callWith pos f first (backTo pos (starEach (e :: es) X.env)) (backToKw pos (keywordEach [] X.env))) := by rfl) : Ev X M os δ (.Call (.Attribute a m apos) (e :: es) [] pos) d os3 :=
  pe_imp (C8.pe_mt (pl := pl) c hr hk ha hg hst hpl ht) fun σ H Q ⟨s, en, q⟩ => ⟨s, en, fun v H1 k1 s1 r1 => by
    cases r1
    obtain ⟨l, h1, e1, rl⟩ := s1.ins hi ho
    refine ⟨x, dx, l, rfl, h1, lookup_no (by rw [e1]; exact hm), s1, en.keep k1, fun vs H2 k2 s2 r2 => ?_⟩
    show spR C' (V.ref x :: (vs ++ [])) H2 Q C8.E0
    rw [List.append_nil]
    exact ⟨M, os2, .adr x :: da, d, os3, s2, .cons (.adr x) r2, hC, fun v H3 k3 s3 r3 => q v H3 ((k1.trans k2).trans k3) s3 r3⟩⟩
/-- a property -/
structure Prp (P : Program) (w : World) (K : PySem.W.Frag) (mg : Str → Option Value) (base : Heap) (k : Nat) (C : Addr) (m : Str) (sp : Sp) : Prop where
  ex : ∃ (p g : Addr) (fd : FuncData) (ps : List Str), Cls K C ∧ PropOf K C m p g ∧ FnOk P w K mg base C8.CX0 k g fd ps sp ∧ Binds K fd ps []
theorem ev_prp {m : Str} {C' : Ctr} (i : Nat) (c : Prp X.prog X.w X.K X.mg X.base kk C m (spR C')) (hr : Room j X.A) (ha : Ev X M os δ a (.adr x) os1) (hi : M[i]? = some x) (ho : os1[i]? = some (.ins C dx fs ds)) (hC : C' M [.adr x] os1 d os3) (hk : kk + 1 ≤ j := by decide)
    (hb : attributeBase a m X.env (eval a X.env) = eval a X.env := by rfl) : Ev X M os δ (.Attribute a m pos) d os3 := by
  obtain ⟨p, g, fd, ps, hcl, hp, F, b⟩ := c.ex
  exact pe_imp (pe_prop (E := C8.E0) ha hcl hp F (hr.mono hk) b .nil C8.pass0 hb) fun σ H Q ⟨s, en, q⟩ => ⟨s, en, fun v H1 k1 s1 r1 => by
    cases r1
    obtain ⟨l, h1, e1, rl⟩ := s1.ins hi ho
    exact ⟨x, dx, l, rfl, h1, M, os1, [.adr x], d, os3, s1, .cons (.adr x) .nil, hC, fun v H3 k3 s3 r3 => q v H3 (k1.trans k3) s3 r3⟩⟩
/-- try: return e / finally: suite -/
theorem stm_retFin {f₀ : Stmt} {fs' : List Stmt} {rp : Pos} (he : Ev X.nox M os δ e d os1) (hf : Stm X.nox M os1 δ (f₀ :: fs') ⟨M, k.mr, fun _ os2 => k.rt d os2, k.rt⟩) (hm : k.mr = M) : Stm X M os δ [.Try [.Return (some e) rp] [] [] (f₀ :: fs') pos] k :=
  pss_imp (pss_one (ps_retFin he hf)) fun Dn σ H ⟨s, en, nx, r⟩ => ⟨s, en, fun v H1 k1 s1 r1 => ⟨s1, en.keep k1, fun σ' H' δ' os' k2 s2 e2 w => by
    refine r v d H' os' (k1.trans k2) ?_ ?_ w
    · rw [hm]
      exact s2
    · rw [hm]
      exact r1.keep k2, fun v' d' H' os' k2 => r v' d' H' os' (k1.trans k2)⟩⟩
/-! ### a value that comes with new objects -/
def tEN {ι : Type} (M : List Addr) (os : List MO) (δ : List (Option D)) (dn : ι → D) (Mi : ι → List Addr) (oi : ι → List MO) : TE := fun σ H Q => Sok M os H ∧ EnvR M H σ δ ∧ ∀ n v H', (∀ H2, Keep (Mi n) H' H2 → Keep M H H2) → (∀ u du, R M H u du → R (Mi n) H' u du) → Sok (Mi n) (oi n) H' → R (Mi n) H' v (dn n) → Q v H'
abbrev EvN {ι : Type} (X : Cx) (M : List Addr) (os : List MO) (δ : List (Option D)) (e : Expr) (dn : ι → D) (Mi : ι → List Addr) (oi : ι → List MO) : Prop := PE X e (tEN M os δ dn Mi oi)
def tAN {ι : Type} (M : List Addr) (os : List MO) (δ : List (Option D)) (dn : ι → List D) (Mi : ι → List Addr) (oi : ι → List MO) : TA := fun σ H Q => Sok M os H ∧ EnvR M H σ δ ∧ ∀ n vs H', (∀ H2, Keep (Mi n) H' H2 → Keep M H H2) → (∀ u du, R M H u du → R (Mi n) H' u du) → Sok (Mi n) (oi n) H' → RA (Mi n) H' vs (dn n) → Q vs H'
abbrev ArgN {ι : Type} (X : Cx) (M : List Addr) (os : List MO) (δ : List (Option D)) (es : List Expr) (dn : ι → List D) (Mi : ι → List Addr) (oi : ι → List MO) : Prop := PA X es (tAN M os δ dn Mi oi)
theorem EnvR.mp {M N : List Addr} {H H' : Hp} {σ : L2.St} {δ : List (Option D)} (e : EnvR M H σ δ) (h : ∀ u du, R M H u du → R N H' u du) : EnvR N H' σ δ := ⟨e.len, fun i d q => by
  obtain ⟨v, h1, h2⟩ := e.at_ i d q
  exact ⟨v, h1, h _ _ h2⟩⟩
theorem argN_here {ι : Type} {es : List Expr} {dn : ι → D} {Mi : ι → List Addr} {oi : ι → List MO} {fs : ι → List D} (h : EvN X M os δ e dn Mi oi) (hr : ∀ n, Arg X (Mi n) (oi n) δ es (fs n) (oi n)) (hs : starEach (e :: es) X.env = (false, eval e X.env) :: starEach es X.env := by rfl) : ArgN X M os δ (e :: es) (fun n => dn n :: fs n) Mi oi := by
  have hrest : PA X es (fun σ H Q => ∃ n, tA (Mi n) (oi n) δ (fs n) (oi n) σ H Q) := ⟨fun pos pins s σ H Q I ⟨n, w⟩ => (hr n).run pos pins s σ H Q I w⟩
  exact pa_imp (pa_cons h hrest hs) fun σ H Q ⟨s, en, kq⟩ => ⟨s, en, fun n v H1 k1 t1 s1 r1 => ⟨n, s1, en.mp t1, fun vs H2 k2 s2 r2 => kq n _ H2 (fun H3 k3 => k1 H3 (k2.trans k3)) (fun u du r => (t1 u du r).keep k2) s2 (.cons (r1.keep k2) r2)⟩⟩
theorem stm_par3N {ι : Type} (i j l : Nat) {x y z : Str} {px py pz pt : Pos} {kt k2 : Nat} {pt2 : Pos} {d1 d2 d3 : ι → D} {Mi : ι → List Addr} {oi : ι → List MO} (ha : ArgN X M os δ [a, b, c] (fun n => [d1 n, d2 n, d3 n]) Mi oi) (hc : X.calm = true) (hN : X.N.Nodup) (hr : ∀ n, Stm X (Mi n) (oi n) (((δ.set i (some (d1 n))).set j (some (d2 n))).set l (some (d3 n))) rest k) (hi : X.N[i]? = some x := by rfl) (hj : X.N[j]? = some y := by rfl) (hl : X.N[l]? = some z := by rfl) (hij : i ≠ j := by decide) (hil : i ≠ l := by decide) (hjl : j ≠ l := by decide)
    (hx : X.env.scope.names.lookup x = some .local := by rfl) (hy : X.env.scope.names.lookup y = some .local := by rfl) (hz : X.env.scope.names.lookup z = some .local := by rfl) (hw : swappedStores [.Tuple [.Name x px, .Name y py, .Name z pz] kt pt] (.Tuple [a, b, c] k2 pt2) X.env = pure (some [x, y, z]) := by rfl)
    (hs : swapsWithSole [.Tuple [.Name x px, .Name y py, .Name z pz] kt pt] (.Tuple [a, b, c] k2 pt2) pos.line X.env = pure false := by rfl) : Stm X M os δ (.Assign [.Tuple [.Name x px, .Name y py, .Name z pz] kt pt] (.Tuple [a, b, c] k2 pt2) pos :: rest) k := by
  have hrest : PSs X rest (fun Dn σ H => ∃ n, tS (Mi n) (oi n) (((δ.set i (some (d1 n))).set j (some (d2 n))).set l (some (d3 n))) k Dn σ H) := ⟨fun pins s σ H Dn I ⟨L, w⟩ => (hr L).run pins s σ H Dn I w⟩
  exact pss_imp (pss_cons (ps_par3 hc hN hi hj hl hij hil hjl hx hy hz ha hw hs) hrest) fun Dn σ H ⟨s, en, n, r⟩ => ⟨s, en, fun L vs H1 k1 t1 s1 r1 => by
    cases r1 with
    | cons r1 r2 =>
      cases r2 with
      | cons r2 r3 =>
        cases r3 with
        | cons r3 r4 =>
          cases r4
          exact ⟨_, _, _, rfl, L, s1, (((en.mp t1).set i r1).set j r2).set l r3, fun σ' H' δ' os' k3 => n σ' H' δ' os' (k1 _ k3), fun v d H' os' k3 => r v d H' os' (k1 _ k3)⟩⟩
end
end PW
namespace PW
open PySem PySem.Spec PyProof.Rows L2
section
variable {X : Cx} {M : List Addr} {os os1 os2 os3 : List MO} {δ δ' : List (Option D)} {a b c e : Expr} {pos p p2 : Pos} {d : D} {ds : List D} {fs : List Str} {f : Str} {x C dx : Addr} {rest : List Stmt} {u : TS}
theorem ts_expr (he : Ev X M os δ e d os1) (hr : PSs X rest u) (hs : swapsWith e none pos.line X.env = pure false := by rfl) : PSs X (.Expr e pos :: rest) (fun Dn σ H => Sok M os H ∧ EnvR M H σ δ ∧ ∀ H', Keep M H H' → Sok M os1 H' → EnvR M H' σ δ → u Dn σ H') :=
  pss_imp (pss_cons (ps_expr he hs) hr) fun Dn σ H ⟨s, en, q⟩ => ⟨s, en, fun v H1 k1 s1 r1 => q H1 k1 s1 (en.keep k1)⟩
theorem fld_len {l : List (Str × V)} (e1 : l.map (·.1) = fs) (hz : fs.length < 1000) : l.length < 1000 := by
  have := congrArg List.length e1
  rw [List.length_map] at this
  omega
/-- o.f = e, a new attribute -/
theorem ts_fld (m : Nat) (hv : Ev X M os δ e d os1) (ha : Ev X M os1 δ a (.adr x) os2) (hi : M[m]? = some x) (ho : os2[m]? = some (.ins C dx fs ds)) (hc : Cls X.K C) (hn : NoAttr X.K C f) (hf : f ∉ fs) (hz : fs.length < 1000)
    (hr : PSs X rest u) (hs : swapsWith e (some (.Attribute a f p2)) pos.line X.env = pure false := by rfl) : PSs X (.Assign [.Attribute a f p2] e pos :: rest) (fun Dn σ H => Sok M os H ∧ EnvR M H σ δ ∧ ∀ H', Keep M H H' → Sok M (os2.set m (.ins C dx (fs ++ [f]) (ds ++ [d]))) H' → EnvR M H' σ δ → u Dn σ H') :=
  pss_imp (pss_cons (ps_fld ha hv hs) hr) fun Dn σ H ⟨s, en, q⟩ => ⟨s, en, fun v H1 k1 s1 r1 => ⟨s1, en.keep k1, fun w H2 k2 s2 r2 => by
    cases r2
    obtain ⟨l, h1, e1, rl⟩ := s2.ins hi ho
    refine ⟨x, C, dx, l, rfl, h1, hc, hn, fld_len e1 hz, ?_⟩
    have kS : Keep M H2 (upd H2 x (.ins C dx (putF f v l))) := Keep.set (List.mem_of_getElem? hi)
    have e3 : putF f v l = l ++ [(f, v)] := putF_new (by rw [e1]; exact hf)
    have sS := s2.put (o := .ins C dx (fs ++ [f]) (ds ++ [d])) hi kS (fun b hb _ => upd_ne hb) ⟨putF f v l, upd_same, by rw [e3, List.map_append, e1] <;> rfl, by
      rw [show (putF f v l).map (·.2) = l.map (·.2) ++ [v] by rw [e3, List.map_append] <;> rfl]
      exact (rl.append (.cons (r1.keep k2) .nil)).keep kS⟩
    exact q _ ((k1.trans k2).trans kS) sS (((en.keep k1).keep k2).keep kS)⟩⟩
/-- o.f = [] .., a new attribute, the list told of -/
theorem ts_fldL (m : Nat) {p1 : Pos} (ha : ∀ L, Ev X (L :: M) (.lst [] :: os) δ a (.adr x) (.lst [] :: os)) (hi : M[m]? = some x) (ho : os[m]? = some (.ins C dx fs ds)) (hc : Cls X.K C) (hn : NoAttr X.K C f) (hf : f ∉ fs) (hz : fs.length < 1000)
    (hr : PSs X rest u) (hs : swapsWith (.List [] p1) (some (.Attribute a f p2)) pos.line X.env = pure false := by rfl) : PSs X (.Assign [.Attribute a f p2] (.List [] p1) pos :: rest) (fun Dn σ H => Sok M os H ∧ EnvR M H σ δ ∧ ∀ L H', (∀ H2, Keep (L :: M) H' H2 → Keep M H H2) → (∀ v d, R M H v d → R (L :: M) H' v d) → Sok (L :: M) (.lst [] :: os.set m (.ins C dx (fs ++ [f]) (ds ++ [.adr L]))) H' → EnvR (L :: M) H' σ δ → u Dn σ H') := by
  have ha2 : PE X a (fun σ H Q => ∃ L, tE (L :: M) (.lst [] :: os) δ (.adr x) (.lst [] :: os) σ H Q) := ⟨fun pins s σ H Q I ⟨L, w⟩ => (ha L).run pins s σ H Q I w⟩
  exact pss_imp (pss_cons (ps_fld ha2 (pe_lst pa_nil) hs) hr) fun Dn σ H ⟨s, en, q⟩ => ⟨Nat.zero_le _, fun L hL => ⟨L, s.more hL (Ext.new hL) ⟨[], upd_same, .nil⟩, (en.more hL).keep (Ext.new hL).keep, fun w H2 k2 s2 r2 => by
    cases r2
    obtain ⟨l, h1, e1, rl⟩ := s2.ins (m := m + 1) (by simpa using hi) (by simpa using ho)
    refine ⟨x, C, dx, l, rfl, h1, hc, hn, fld_len e1 hz, ?_⟩
    have kS : Keep (L :: M) H2 (upd H2 x (.ins C dx (putF f (.ref L) l))) := Keep.set (List.mem_cons_of_mem _ (List.mem_of_getElem? hi))
    have e3 : putF f (.ref L) l = l ++ [(f, .ref L)] := putF_new (by rw [e1]; exact hf)
    have sS := s2.put (i := m + 1) (o := .ins C dx (fs ++ [f]) (ds ++ [.adr L])) (by simpa using hi) kS (fun b hb _ => upd_ne hb) ⟨putF f (.ref L) l, upd_same, by rw [e3, List.map_append, e1] <;> rfl, by
      rw [show (putF f (.ref L) l).map (·.2) = l.map (·.2) ++ [.ref L] by rw [e3, List.map_append] <;> rfl]
      exact (rl.append (.cons (.adr L) .nil)).keep kS⟩
    have kk : Keep (L :: M) H (upd H2 x (.ins C dx (putF f (.ref L) l))) := (Ext.new hL).keep.trans (k2.trans kS)
    exact q L _ (fun H3 k3 => Keep.fill0 hL (kk.trans k3)) (fun v d r => (r.more hL).keep kk) sS ((en.more hL).keep kk)⟩⟩
theorem ts_nil : PSs X [] (fun Dn σ H => Dn.nx σ H) := pss_nil
end
end PW
namespace PW
open PySem PySem.Spec PyProof.Rows L2
/-- what of the text the class has -/
structure LvC (K : PySem.W.Frag) (mg : Str → Option Value) (C : Addr) : Prop where
  cm : mg "LiveHearer" = some (.ref C)
  cl : Cls K C
  na : ∀ f ∈ FS, NoAttr K C f
  ini : ∃ f fd, Mk K C f ∧ FunD K "__init__" "LiveHearer.__init__" (defArgs (lv 1)) (defBody (lv 1)) (defScope (lv 1)) [] [] f fd
  met : ∀ p ∈ mtbl, ∃ f fd, Meth K C p.1 f ∧ FunD K p.1 p.2.1 (defArgs (lv p.2.2)) (defBody (lv p.2.2)) (defScope (lv p.2.2)) [] [] f fd
  most : ∃ u, Con K C "MOST" (.int 40) u
  run : ∃ p g fd, PropOf K C "run_now" p g ∧ FunD K "run_now" "LiveHearer.run_now" (defArgs (lv 3)) (defBody (lv 3)) (defScope (lv 3)) [] [] g fd
theorem LvC.at {K : PySem.W.Frag} {mg : Str → Option Value} {C : Addr} (T : LvC K mg C) (i : Nat) {p : Str × Str × Nat} (h : mtbl[i]? = some p := by rfl) : ∃ f fd, Meth K C p.1 f ∧ FunD K p.1 p.2.1 (defArgs (lv p.2.2)) (defBody (lv p.2.2)) (defScope (lv p.2.2)) [] [] f fd := T.met p (List.mem_of_getElem? h)
theorem LvC.nat {K : PySem.W.Frag} {mg : Str → Option Value} {C : Addr} (T : LvC K mg C) (i : Nat) {f : Str} (h : FS[i]? = some f := by rfl) : NoAttr K C f := T.na f (List.mem_of_getElem? h)
def lvD (s : Snd) (r : Roa) (e : Ear) (vs : List Evt) (ss : List Std) (L1 L2 : Addr) : List D := [bookD s r e, .tup (vs.map Evt.d), .tup (ss.map (Std.d e)), .adr L1, .adr L2]
section
variable {P : Program} {w : World} {K : PySem.W.Frag} {mg : Str → Option Value} {base : Heap} {C : Addr}
theorem met_ok {m qual : Str} {st : Stmt} {N ps : List Str} {k : Nat} {C' : Ctr} (cl : Cls K C) (h : ∃ f fd, Meth K C m f ∧ FunD K m qual (defArgs st) (defBody st) (defScope st) [] [] f fd) (S : FnScope N ps (defScope st))
    (hb : ∀ (kV doc pm : Value) (an : Option Addr) (cdv ct : Value) (us : List Value), us.length = ps.length → bindArgs (PySem.W.fnOf m qual (defArgs st) (defBody st) (defScope st) .none kV doc pm an cdv ct) ⟨us, []⟩ = pure (ps.zip us))
    (hl : ∀ M ds os d os', C' M ds os d os' → ds.length = ps.length)
    (body : ∀ (f : Addr) (cdv : Value) (A : Around) (outer : List Env) (s : Shared) (H : Hp) (E : XK), Room k (A.deeper (envOfC qual (defScope st) s.heap.objs.size f cdv)) →
      Bdy (cxOf C8.CX0 P w K mg base N qual (defScope st) f cdv A outer s H E).nox N (defBody st) C') : C8.Met P w K mg base (k + 1) C m (spR C') [] := by
  obtain ⟨f, fd, M, F⟩ := h
  exact ⟨f, fd, ps, [], cl, M, F.ok S (spR_len hl) fun cdv A outer s H vs Q E hr hsp => by
    obtain ⟨t, h1, h2⟩ := bdy_ok (body f cdv A outer s H E hr) hsp
    exact ⟨t, h1.nox, h2⟩, F.bindsN hb, .nil⟩
theorem nFS : FS.Nodup := by decide +kernel
/-- the instance lies so -/
def At (C : Addr) (M : List Addr) (os : List MO) (x : Addr) (s : Snd) (r : Roa) (e : Ear) (vs : List Evt) (ss : List Std) (d1 d2 : List D) (os0 : List MO) : Prop := ∃ L1 L2 M0 dx, M = L2 :: L1 :: x :: M0 ∧ os = .lst d2 :: .lst d1 :: .ins C dx FS (lvD s r e vs ss L1 L2) :: os0
def c_reason (C : Addr) : Ctr := fun M ds os d os' => ∃ (x : Addr) (s : Snd) (r : Roa) (e : Ear) (vs : List Evt) (ss : List Std) (d1 d2 : List D) (os0 : List MO) (σ : Std) (v : Evt) (many : Nat), At C M os x s r e vs ss d1 d2 os0 ∧ ds = [.adr x, .int (many : Nat), σ.d e, v.d] ∧ s.Ok ∧ EvtOk s r σ v ∧ many < 40 ∧ d = .non ∧ os' = os
theorem evt_pos {s : Snd} {r : Roa} {σ : Std} {v : Evt} (h : EvtOk s r σ v) : ∀ m n, v = .beg m n → 0 ≤ n := fun m n e => by
  subst e
  exact BegOk.n0 h
theorem ok_reason_behind (E : Env1 K mg) (V : LvC K mg C) : C8.Met P w K mg base 6 C "reason_behind" (spR (c_reason C)) [] := by
  have nd : (["self", "many", "standing", "event"] : List Str).Nodup := by decide +kernel
  refine met_ok (N := ["self", "many", "standing", "event"]) (ps := ["self", "many", "standing", "event"]) V.cl (V.at 0) ⟨rfl, rfl, rfl, nd, rfl, by decide +kernel, by decide +kernel⟩ (fun _ _ _ _ _ _ us hl => match us, hl with | [_, _, _, _], _ => rfl) ?_ ?_
  · rintro M ds os d os1 ⟨x, s, r, e, vs, ss, d1, d2, os0, σ, v, many, _, rfl, _⟩
    rfl
  · rintro f cdv A outer sh H E0 hr M ds os d os1 ⟨x, s, r, e, vs, ss, d1, d2, os0, σ, v, many, ⟨L1, L2, M0, dx, rfl, rfl⟩, rfl, so, vo, hm, rfl, rfl⟩
    obtain ⟨u, hu⟩ := V.most
    exact
    stm_ifF (tst_eq (tst_not (tst_val (ev_callP (ok_is_event E) hr (arg_cons (ev_var 3 rfl) arg_nil) ⟨v, rfl, evt_pos vo, rfl⟩))) rfl) <|
    stm_ret (ev_ifF (tst_eq (tst_cmp c_ge (ev_var 1 rfl) (ev_con (d := .int 40) 2 (ev_var 0 rfl) rfl rfl V.cl hu (fun H => .int 40) (by decide +kernel))) (decide_eq_false (by omega))) (ev_callP (ok_event_reason E) hr (arg_cons (ev_fld 2 0 (ev_var 0 rfl) rfl rfl V.cl (V.nat 0) rfl rfl nFS) (arg_cons (ev_var 2 rfl) (arg_cons (ev_var 3 rfl) arg_nil))) ⟨s, r, e, σ, v, rfl, so, vo, rfl⟩)) ⟨rfl, rfl⟩
def c_result (C : Addr) : Ctr := fun M ds os d os' => ∃ (x : Addr) (s : Snd) (r : Roa) (e : Ear) (vs : List Evt) (ss : List Std) (d1 d2 : List D) (os0 : List MO) (σ : Std) (v : Evt) (many : Nat), At C M os x s r e vs ss d1 d2 os0 ∧ ds = [.adr x, .int (many : Nat), σ.d e, v.d] ∧ s.Ok ∧ e.Ok ∧ σ.Ok s ∧ EvtOk s r σ v ∧ many < 40 ∧ d = .tup [(stepF s e σ v).d e, ansF s e σ v] ∧ os' = os
theorem ok_result_behind (E : Env1 K mg) (V : LvC K mg C) : C8.Met P w K mg base 7 C "result_behind" (spR (c_result C)) [] := by
  have nd : (["self", "many", "standing", "event", "reason"] : List Str).Nodup := by decide +kernel
  refine met_ok (N := ["self", "many", "standing", "event", "reason"]) (ps := ["self", "many", "standing", "event"]) V.cl (V.at 1) ⟨rfl, rfl, rfl, nd, rfl, by decide +kernel, by decide +kernel⟩ (fun _ _ _ _ _ _ us hl => match us, hl with | [_, _, _, _], _ => rfl) ?_ ?_
  · rintro M ds os d os1 ⟨x, s, r, e, vs, ss, d1, d2, os0, σ, v, many, _, rfl, _⟩
    rfl
  · rintro f cdv A outer sh H E0 hr M ds os d os1 ⟨x, s, r, e, vs, ss, d1, d2, os0, σ, v, many, ⟨L1, L2, M0, dx, rfl, rfl⟩, rfl, so, eo, ok, vo, hm, rfl, rfl⟩
    exact
    stm_set 4 (ev_met 2 (ok_reason_behind E V) hr (ev_var 0 rfl) rfl rfl (by decide +kernel) (arg_cons (ev_var 1 rfl) (arg_cons (ev_var 2 rfl) (arg_cons (ev_var 3 rfl) arg_nil))) ⟨x, s, r, e, vs, ss, d1, d2, os0, σ, v, many, ⟨L1, L2, M0, dx, rfl, rfl⟩, rfl, so, vo, hm, rfl, rfl⟩) nd <|
    stm_ifF (tst_eq (tst_cmp c_notN (ev_var 4 rfl) ev_non) rfl) <|
    stm_ret (ev_callP (ok_behind E) hr (arg_cons (ev_fld 2 0 (ev_var 0 rfl) rfl rfl V.cl (V.nat 0) rfl rfl nFS) (arg_cons (ev_var 2 rfl) (arg_cons (ev_var 3 rfl) arg_nil))) ⟨s, r, e, σ, v, rfl, so, eo, ok, vo, rfl⟩) ⟨rfl, rfl⟩
def c_lead (C : Addr) : Ctr := fun M ds os d os' => ∃ (x : Addr) (s : Snd) (r : Roa) (e : Ear) (vs : List Evt) (ss : List Std) (d1 d2 : List D) (os0 : List MO) (σ : Std) (v : Evt), At C M os x s r e vs ss d1 d2 os0 ∧ ds = [.adr x, v.d] ∧ s.Ok ∧ e.Ok ∧ σ.Ok s ∧ ss.getLast? = some σ ∧ EvtOk s r σ v ∧ vs.length < 40 ∧ ss.length ≤ 60 ∧ d = ansF s e σ v ∧
  ∃ L1 L2 M0 dx, M = L2 :: L1 :: x :: M0 ∧ os = .lst d2 :: .lst d1 :: .ins C dx FS (lvD s r e vs ss L1 L2) :: os0 ∧ os' = .lst d2 :: .lst d1 :: .ins C dx FS (lvD s r e (vs ++ [v]) (ss ++ [stepF s e σ v]) L1 L2) :: os0
theorem ok_lead (E : Env1 K mg) (V : LvC K mg C) : C8.Met P w K mg base 8 C "lead" (spR (c_lead C)) [] := by
  have nd : (["self", "event", "late", "answer"] : List Str).Nodup := by decide +kernel
  refine met_ok (N := ["self", "event", "late", "answer"]) (ps := ["self", "event"]) V.cl (V.at 2) ⟨rfl, rfl, rfl, nd, rfl, by decide +kernel, by decide +kernel⟩ (fun _ _ _ _ _ _ us hl => match us, hl with | [_, _], _ => rfl) ?_ ?_
  · rintro M ds os d os1 ⟨x, s, r, e, vs, ss, d1, d2, os0, σ, v, _, rfl, _⟩
    rfl
  · rintro f cdv A outer sh H E0 hr M ds os d os1 ⟨x, s, r, e, vs, ss, d1, d2, os0, σ, v, _, rfl, so, eo, ok, hl, vo, hm, hz, rfl, L1, L2, M0, dx, rfl, rfl, rfl⟩
    have hat : atI (ss.map (Std.d e)) (-1) = some (σ.d e) := atI_lastX (by rw [List.getLast?_map, hl] <;> rfl)
    refine
    stm_asg (ev_met 2 (ok_result_behind E V) hr (ev_var 0 rfl) rfl rfl (by decide +kernel) (arg_cons (ev_bi b_lenT E.B.len boot_len (arg_cons (ev_fld 2 1 (ev_var 0 rfl) rfl rfl V.cl (V.nat 1) rfl rfl nFS) arg_nil)) (arg_cons (ev_ixT (ev_fld 2 2 (ev_var 0 rfl) rfl rfl V.cl (V.nat 2) rfl rfl nFS) (ev_neg ev_int) hat) (arg_cons (ev_var 1 rfl) arg_nil))) ⟨x, s, r, e, vs, ss, d1, d2, os0, σ, v, vs.length, ⟨L1, L2, M0, dx, rfl, rfl⟩, by rw [List.length_map], so, eo, ok, vo, hm, rfl, rfl⟩) (tgt_tup rfl (tgts_cons (tgt_name 2 nd) (tgts_cons (tgt_name 3 nd) tgts_nil)) (fCons_len (fCons_len fNil_len))) rfl <|
    stm_fld (d := .tup ((vs ++ [v]).map Evt.d)) 2 1 (ev_eq (ev_tup (arg_starT (ev_fld 2 1 (ev_var 0 rfl) rfl rfl V.cl (V.nat 1) rfl rfl nFS) (arg_cons (ev_var 1 rfl) arg_nil)) (by simp; omega)) (by rw [List.map_append] <;> rfl)) (ev_var 0 rfl) rfl rfl V.cl (V.nat 1) rfl nFS (by decide +kernel) <|
    stm_fld (d := .tup ((ss ++ [stepF s e σ v]).map (Std.d e))) 2 2 (ev_eq (ev_tup (arg_starT (ev_fld 2 2 (ev_var 0 rfl) rfl rfl V.cl (V.nat 2) rfl rfl nFS) (arg_cons (ev_var 2 rfl) arg_nil)) (by simp; omega)) (by rw [List.map_append] <;> rfl)) (ev_var 0 rfl) rfl rfl V.cl (V.nat 2) rfl nFS (by decide +kernel) <|
    stm_ret (ev_var 3 rfl) ⟨rfl, rfl⟩
def c_go (C : Addr) : Ctr := fun M ds os d os' => ∃ (x : Addr) (s : Snd) (r : Roa) (e : Ear) (vs : List Evt) (ss : List Std) (d1 d2 : List D) (os0 : List MO) (σ : Std) (v : Evt), ds = [.adr x, v.d] ∧ s.Ok ∧ e.Ok ∧ σ.Ok s ∧ ss.getLast? = some σ ∧ EvtOk s r σ v ∧ vs.length < 40 ∧ ss.length ≤ 60 ∧ d1.length ≤ 1000 ∧ d2.length ≤ 1000 ∧ d = ansF s e σ v ∧
  ∃ L1 L2 M0 dx, M = L2 :: L1 :: x :: M0 ∧ os = .lst d2 :: .lst d1 :: .ins C dx FS (lvD s r e vs ss L1 L2) :: os0 ∧ os' = .lst (d2 ++ [.bl true]) :: .lst (d1 ++ [.bl true]) :: .ins C dx FS (lvD s r e (vs ++ [v]) (ss ++ [stepF s e σ v]) L1 L2) :: os0
theorem ok_go (E : Env1 K mg) (V : LvC K mg C) : C8.Met P w K mg base 9 C "go" (spR (c_go C)) [] := by
  have nd : (["self", "event"] : List Str).Nodup := by decide +kernel
  refine met_ok (N := ["self", "event"]) (ps := ["self", "event"]) V.cl (V.at 3) ⟨rfl, rfl, rfl, nd, rfl, by decide +kernel, by decide +kernel⟩ (fun _ _ _ _ _ _ us hl => match us, hl with | [_, _], _ => rfl) ?_ ?_
  · rintro M ds os d os1 ⟨x, s, r, e, vs, ss, d1, d2, os0, σ, v, rfl, _⟩
    rfl
  · rintro f cdv A outer sh H E0 hr M ds os d os1 ⟨x, s, r, e, vs, ss, d1, d2, os0, σ, v, rfl, so, eo, ok, hl, vo, hm, hz, l1, l2, rfl, L1, L2, M0, dx, rfl, rfl, rfl⟩
    exact
    stm_expr (ev_append 1 (ev_fld 2 3 (ev_var 0 rfl) rfl rfl V.cl (V.nat 3) rfl rfl nFS) (arg_cons ev_bl arg_nil) rfl rfl rfl (by omega)) <|
    stm_retFin (ev_met 2 (ok_lead E V) hr (ev_var 0 rfl) rfl rfl (by decide +kernel) (arg_cons (ev_var 1 rfl) arg_nil) ⟨x, s, r, e, vs, ss, d1 ++ [.bl true], d2, os0, σ, v, ⟨L1, L2, M0, dx, rfl, rfl⟩, rfl, so, eo, ok, hl, vo, hm, hz, rfl, L1, L2, M0, dx, rfl, rfl, rfl⟩)
      (stm_expr (ev_append 0 (ev_fld 2 4 (ev_var 0 rfl) rfl rfl V.cl (V.nat 4) rfl rfl nFS) (arg_cons ev_bl arg_nil) rfl rfl rfl (by omega)) <| stm_nil ⟨rfl, rfl⟩) rfl
def c_run (C : Addr) : Ctr := fun M ds os d os' => ∃ (x : Addr) (s : Snd) (r : Roa) (e : Ear) (vs : List Evt) (ss : List Std) (d1 d2 : List D) (os0 : List MO) (σ : Std), At C M os x s r e vs ss d1 d2 os0 ∧ ds = [.adr x] ∧ ss.getLast? = some σ ∧ d = .tup [.tup (σ.bg.map pD), .tup (σ.ar.map Arr.d)] ∧ os' = os
theorem ok_run_now (V : LvC K mg C) : Prp P w K mg base 1 C "run_now" (spR (c_run C)) := by
  have nd : (["self"] : List Str).Nodup := by decide +kernel
  obtain ⟨p, g, fd, hp, F⟩ := V.run
  refine ⟨p, g, fd, ["self"], V.cl, hp, F.ok (N := ["self"]) (ps := ["self"]) ⟨rfl, rfl, rfl, nd, rfl, by decide +kernel, by decide +kernel⟩ (spR_len ?_) (fun cdv A outer sh H vs Q E hr hsp => ?_), F.bindsN fun _ _ _ _ _ _ us hl => match us, hl with | [_], _ => rfl⟩
  · rintro M ds os d os1 ⟨x, s, r, e, vs, ss, d1, d2, os0, σ, _, rfl, _⟩
    rfl
  · have body : Bdy (cxOf C8.CX0 P w K mg base ["self"] "LiveHearer.run_now" (defScope (lv 3)) g cdv A outer sh H E).nox ["self"] (defBody (lv 3)) (c_run C) := by
      rintro M ds os d os1 ⟨x, s, r, e, vs, ss, d1, d2, os0, σ, ⟨L1, L2, M0, dx, rfl, rfl⟩, rfl, hl, rfl, rfl⟩
      have hat : atI (ss.map (Std.d e)) (-1) = some (σ.d e) := atI_lastX (by rw [List.getLast?_map, hl] <;> rfl)
      exact stm_ret (ev_eq (ev_cutT (ev_ixT (ev_fld 2 2 (ev_var 0 rfl) rfl rfl V.cl (V.nat 2) rfl rfl nFS) (ev_neg ev_int) hat) (prt_yes ev_int) (prt_yes ev_int)) rfl) ⟨rfl, rfl⟩
    obtain ⟨t, h1, h2⟩ := bdy_ok body hsp
    exact ⟨t, h1.nox, h2⟩
/-- __init__ -/
def spInit (C : Addr) : Sp := fun vs H Q _ => ∃ (M : List Addr) (os : List MO) (x dx : Addr) (bv : V) (s : Snd) (r : Roa) (e : Ear), vs = [.ref x, bv] ∧ Sok (x :: M) (.ins C dx [] [] :: os) H ∧ R (x :: M) H bv (bookD s r e) ∧ s.Ok ∧ r.Ok ∧ e.Ok ∧
  ∀ L1 L2 H', (∀ H2, Keep (L2 :: L1 :: x :: M) H' H2 → Keep (x :: M) H H2) → (∀ u du, R (x :: M) H u du → R (L2 :: L1 :: x :: M) H' u du) → Sok (L2 :: L1 :: x :: M) (.lst [] :: .lst [] :: .ins C dx FS (lvD s r e [] [std0] L1 L2) :: os) H' → Q .non H'
theorem ok_init (E : Env1 K mg) (V : LvC K mg C) : C8.Mak P w K mg base 6 "LiveHearer" C (spInit C) [] := by
  have nd : (["self", "book"] : List Str).Nodup := by decide +kernel
  obtain ⟨f, fd, Mm, F⟩ := V.ini
  refine ⟨f, fd, ["self", "book"], [], Mm, F.ok (N := ["self", "book"]) (ps := ["self", "book"]) ⟨rfl, rfl, rfl, nd, rfl, by decide +kernel, by decide +kernel⟩ (fun vs H Q E h => ?_) (fun cdv A outer sh H vs Q E0 hr hsp => ?_), V.cm, F.bindsN fun _ _ _ _ _ _ us hl => match us, hl with | [_, _], _ => rfl, .nil⟩
  · obtain ⟨M, os, x, dx, bv, s, r, e, rfl, _⟩ := h
    rfl
  · obtain ⟨M, os, x, dx, bv, s, r, e, rfl, so, rb, sok, rok, eok, q⟩ := hsp
    let δ : List (Option D) := [some (.adr x), some (bookD s r e)]
    refine ⟨_, PSs.nox (ts_expr (M := x :: M) (os := .ins C dx [] [] :: os) (δ := [some (.adr x), some (bookD s r e)]) (ev_callP (ok_lets_book E) hr (arg_cons (ev_var 1 rfl) arg_nil) ⟨s, r, e, rfl, sok, rok, eok, rfl⟩) <|
      ts_fld 0 (M := x :: M) (os := .ins C dx [] [] :: os) (δ := [some (.adr x), some (bookD s r e)]) (ev_var 1 rfl) (ev_var 0 rfl) rfl rfl V.cl (V.nat 0) (by simp) (by simp) <|
      ts_fld 0 (M := x :: M) (os := .ins C dx ["own_book"] [bookD s r e] :: os) (δ := [some (.adr x), some (bookD s r e)]) (ev_tup arg_nil) (ev_var 0 rfl) rfl rfl V.cl (V.nat 1) (by decide +kernel) (by simp) <|
      ts_fld 0 (M := x :: M) (os := .ins C dx ["own_book", "own_events"] [bookD s r e, .tup []] :: os) (δ := [some (.adr x), some (bookD s r e)]) (ev_tup (arg_cons (ev_callP (ok_first_standing E) hr (arg_cons (ev_var 1 rfl) arg_nil) ⟨s, r, e, rfl, rfl⟩) arg_nil)) (ev_var 0 rfl) rfl rfl V.cl (V.nat 2) (by decide +kernel) (by simp) <|
      ts_fldL 0 (M := x :: M) (os := .ins C dx ["own_book", "own_events", "own_standings"] [bookD s r e, .tup [], .tup [std0.d e]] :: os) (δ := [some (.adr x), some (bookD s r e)]) (fun L => ev_var 0 rfl) rfl rfl V.cl (V.nat 3) (by decide +kernel) (by simp) <|
      pss_ex fun L1 : Addr => ts_fldL 1 (M := L1 :: x :: M) (os := .lst [] :: .ins C dx ["own_book", "own_events", "own_standings", "own_started"] [bookD s r e, .tup [], .tup [std0.d e], .adr L1] :: os) (δ := [some (.adr x), some (bookD s r e)]) (fun L => ev_var 0 rfl) rfl rfl V.cl (V.nat 4) (by decide +kernel) (by simp) ts_nil), ?_⟩
    have en : EnvR (x :: M) H (L2.start ["self", "book"] [.ref x, bv]) [some (.adr x), some (bookD s r e)] := EnvR.start (.cons (.adr x) (.cons rb .nil))
    refine ⟨so, en, fun H1 k1 s1 e1 => ⟨s1, e1, fun H2 k2 s2 e2 => ⟨s2, e2, fun H3 k3 s3 e3 => ⟨s3, e3, fun H4 k4 s4 e4 => ⟨s4, e4, fun L1 H5 k5 t5 s5 e5 => ⟨L1, s5, e5, fun L2 H6 k6 t6 s6 e6 => ?_⟩⟩⟩⟩⟩⟩
    have k04 : Keep (x :: M) H H4 := ((k1.trans k2).trans k3).trans k4
    exact q L1 L2 H6 (fun H7 k7 => k04.trans (k5 _ (k6 _ k7))) (fun u du ru => t6 _ _ (t5 _ _ (ru.keep k04))) s6
end
section
variable {X : Cx} {M : List Addr} {os : List MO} {δ : List (Option D)} {a : Expr} {pos p : Pos} {C : Addr} {j : Nat} {s : Snd} {r : Roa} {e : Ear}
/-- LiveHearer(book) -/
theorem ev_live (c : C8.Mak X.prog X.w X.K X.mg X.base 6 "LiveHearer" C (spInit C) []) (hr : Room j X.A) (ha : Ev X M os δ a (bookD s r e) os) (so : s.Ok) (ro : r.Ok) (eo : e.Ok) (hk : 7 ≤ j := by decide) (hg : Gl X "LiveHearer" := by rfl)
    (he : starEach [a] X.env = (false, eval a X.env) :: starEach [] X.env := by rfl) (hpl : (backTo pos (starEach [] X.env)).any (·.1) = false := by rfl) :
    EvN X M os δ (.Call (.Name "LiveHearer" p) [a] [] pos) (fun n : Addr × Addr × Addr × Addr => .adr n.1) (fun n => n.2.2.1 :: n.2.1 :: n.1 :: M) (fun n => .lst [] :: .lst [] :: .ins C n.2.2.2 FS (lvD s r e [] [std0] n.2.1 n.2.2.1) :: os) :=
  pe_imp (C8.pe_mk c hr hk hg (arg_cons ha arg_nil he) (by decide) he hpl) fun σ H Q ⟨sk, en, q⟩ => ⟨sk, en, fun vs H1 k1 s1 r1 x dx hx hdx hne => by
    obtain ⟨bv, ev, rb⟩ := r1.one
    subst ev
    have ex1 : Ext H1 (upd H1 dx (.own x)) := Ext.new hdx
    have hx1 : upd H1 dx (.own x) x = none := by rw [upd_ne (Ne.symm hne)]; exact hx
    have ex2 : Ext (upd H1 dx (.own x)) (upd (upd H1 dx (.own x)) x (.ins C dx [])) := Ext.new hx1
    have sA := s1.ext ex1
    have sB : Sok (x :: M) (.ins C dx [] [] :: os) (upd (upd H1 dx (.own x)) x (.ins C dx [])) := sA.more hx1 ex2 ⟨[], upd_same, rfl, .nil⟩
    have up : ∀ u du, R M H1 u du → R (x :: M) (upd (upd H1 dx (.own x)) x (.ins C dx [])) u du := fun u du r => (((r.keep ex1.keep).more hx1).keep ex2.keep)
    refine ⟨M, os, x, dx, bv, s, r, e, rfl, sB, up _ _ rb, so, ro, eo, fun L1 L2 H' kk tt ss => ⟨rfl, ?_⟩⟩
    refine q (x, L1, L2, dx) (.ref x) H' (fun H2 k2 => ?_) (fun u du ru => tt _ _ (up _ _ (ru.keep k1))) ss (.adr x)
    exact (k1.trans ex1.keep).trans (Keep.fill hx1 (kk _ k2))⟩
end
end PW
namespace PW
open PySem PySem.Spec PyProof.Rows L2
/-! ### the feed -/
structure Feed where
  cells : List Int
  spot : Int
  over : Int
  turn : Int
def KF : List Key := [.inr "cells", .inr "spot", .inr "over", .inr "turn"]
def Feed.l (f : Feed) : List D := [.lst (f.cells.map D.int), .int f.spot, .int f.over, .int f.turn]
def Feed.o (f : Feed) : MO := .dic KF f.l
theorem nKF : KF.Nodup := by decide +kernel
def cellF (f : Feed) : Int := if f.cells = [] then 27365 else f.cells.getD (f.spot % (f.cells.length : Int)).toNat 0
def st1F (c t : Int) : Int := (c % 1000453829 + 714862 * t + 38996) % 2147299967
def st2F (x t : Int) : Int := (x * x + 7881538 * t + 43412) % 2147302383
def st3F (x : Int) : Int := (x * x + 13235 * x) % 2147300669 / 32
def bigF (f : Feed) : Bool := decide ((10 : Int) ^ 18 ≤ cellF f) && decide (f.spot < (f.cells.length : Int))
def drawF (f : Feed) (lim : Int) : Int × Feed :=
  if 0 < f.over then (f.over % lim, ⟨f.cells, f.spot, f.over / lim, f.turn + 1⟩)
  else if bigF f = true then (cellF f % lim, ⟨f.cells, f.spot + 1, cellF f / lim, f.turn + 1⟩)
  else (st3F (st2F (st1F (cellF f) (f.turn + 1)) (f.turn + 1)) % lim, ⟨f.cells, f.spot + 1, f.over, f.turn + 1⟩)
theorem draw_bd {f : Feed} {lim : Int} (h : 0 < lim) : 0 ≤ (drawF f lim).1 ∧ (drawF f lim).1 < lim := by
  unfold drawF
  split
  · exact ⟨Int.emod_nonneg _ (by omega), Int.emod_lt_of_pos _ h⟩
  · split
    · exact ⟨Int.emod_nonneg _ (by omega), Int.emod_lt_of_pos _ h⟩
    · exact ⟨Int.emod_nonneg _ (by omega), Int.emod_lt_of_pos _ h⟩
theorem put_at {os : List MO} {m : Nat} {o o' : MO} (h : os[m]? = some o) : (os.set m o')[m]? = some o' := by
  rw [List.getElem?_set_self (List.getElem?_eq_some_iff.mp h).1]
theorem put_self {os : List MO} {m : Nat} {o : MO} (h : os[m]? = some o) : os = os.set m o := by
  obtain ⟨h1, h2⟩ := List.getElem?_eq_some_iff.mp h
  subst h2
  exact (List.set_getElem_self h1).symm
section
variable {X : Cx} {M : List Addr} {os os1 os2 os3 : List MO} {δ δ' : List (Option D)} {a b c e : Expr} {pos p p2 : Pos} {d : D} {ds : List D} {A : Addr} {f : Feed} {m j : Nat} {rest : List Stmt} {k : Kt}
theorem stm_os (os' : List MO) (h : os = os') (r : Stm X M os' δ rest k) : Stm X M os δ rest k := h ▸ r
/-- feed['..'] -/
theorem ev_feed {x : Str} {q} {p3 : Pos} (n : Nat) (hr : Room j X.A) (ha : Ev X M os δ a (.adr A) os1) (hm : M[m]? = some A) (ho : os1[m]? = some f.o) (hn : KF[n]? = some (.inr x)) (hd : f.l[n]? = some d) : Ev X M os δ (.Subscript a (.Constant (.str x) q p3) pos) d os1 :=
  ev_dgetM m n hr ha ev_str hm ho hn hd nKF
theorem stm_feed {x : Str} {q} {p3 : Pos} (n : Nat) (f' : Feed) (hr : Room j X.A) (hv : Ev X M os δ e d os1) (ha : Ev X M os1 δ a (.adr A) os1) (hm : M[m]? = some A) (ho : os1[m]? = some f.o) (hn : KF[n]? = some (.inr x)) (hf : f.l.set n d = f'.l)
    (hrest : Stm X M (os1.set m f'.o) δ rest k) (hs : swapsWith e (some (.Subscript a (.Constant (.str x) q p3) p2)) pos.line X.env = pure false := by rfl) : Stm X M os δ (.Assign [.Subscript a (.Constant (.str x) q p3) p2] e pos :: rest) k :=
  stm_dput m n hr hv ha ev_str hm ho hn nKF (by decide) (by
    rw [hf]
    exact hrest) hs
end
section
variable {P : Program} {w : World} {K : PySem.W.Frag} {mg : Str → Option Value} {base : Heap}
def c_draw : Ctr := fun M ds os d os' => ∃ (A : Addr) (m : Nat) (f : Feed) (lim : Int), M[m]? = some A ∧ os[m]? = some f.o ∧ ds = [.adr A, .int lim] ∧ 0 < lim ∧ lim ≤ 1000000 ∧ d = .int (drawF f lim).1 ∧ os' = os.set m (drawF f lim).2.o
theorem ok_draw (E : Env1 K mg) : Cl P w K mg base 1 "_law_draw" c_draw := by
  have nd : (["_law_feed_here", "_law_limit", "_law_cell", "_law_stirred", "_law_digit", "_law_cells", "_law_spot"] : List Str).Nodup := by decide +kernel
  refine cl_ok (N := ["_law_feed_here", "_law_limit", "_law_cell", "_law_stirred", "_law_digit", "_law_cells", "_law_spot"]) (ps := ["_law_feed_here", "_law_limit"]) (E.T.at 55) ⟨rfl, rfl, rfl, nd, rfl, by decide +kernel, by decide +kernel⟩ (fun _ _ _ _ _ _ us hl => match us, hl with | [_, _], _ => rfl) ?_ ?_
  · rintro M ds os d os1 ⟨A, m, f, lim, _, _, rfl, _⟩
    rfl
  · rintro fa cdv Ar outer sh H E0 hr M ds os d os1 ⟨A, m, f, lim, hm, ho, rfl, l0, l1, rfl, rfl⟩
    have ho1 : ∀ f' : Feed, (os.set m f'.o)[m]? = some f'.o := fun f' => put_at ho
    refine
    stm_env [some (.adr A), some (.int lim), none, none, none, none, none] rfl <|
    stm_feed 3 ⟨f.cells, f.spot, f.over, f.turn + 1⟩ hr (ev_add (ev_feed 3 hr (ev_var 0 rfl) hm ho rfl rfl) ev_int) (ev_var 0 rfl) hm ho rfl rfl <|
    stm_ifR (tst_cmp c_gt (ev_feed 2 hr (ev_var 0 rfl) hm (ho1 _) rfl rfl) ev_int) (fun h1 =>
      stm_set 4 (ev_mod (ev_bt b_intI E.B.int boot_int (arg_cons (ev_feed 2 hr (ev_var 0 rfl) hm (ho1 _) rfl rfl) arg_nil)) (ev_var 1 rfl) l0) nd <|
      stm_feed 2 ⟨f.cells, f.spot, f.over / lim, f.turn + 1⟩ hr (ev_fdiv (ev_feed 2 hr (ev_var 0 rfl) hm (ho1 _) rfl rfl) (ev_var 1 rfl) ⟨l0, by omega⟩) (ev_var 0 rfl) hm (ho1 _) rfl rfl <|
      stm_ret (ev_var 4 rfl) ?_) fun h2 => ?_
    · unfold drawF
      rw [if_pos (of_decide_eq_true h1), List.set_set]
      exact ⟨rfl, rfl⟩
    · have h2' := of_decide_eq_false h2
      have hc : ∀ t, cellF ⟨f.cells, f.spot, f.over, t⟩ = cellF f := fun _ => rfl
      refine
      stm_par2 5 6 (arg_cons (ev_feed 0 hr (ev_var 0 rfl) hm (ho1 _) rfl rfl) (arg_cons (ev_feed 1 hr (ev_var 0 rfl) hm (ho1 _) rfl rfl) arg_nil)) rfl nd <|
      stm_env [some (.adr A), some (.int lim), none, none, none, some (.lst (f.cells.map D.int)), some (.int f.spot)] rfl <|
      stm_feed 1 ⟨f.cells, f.spot + 1, f.over, f.turn + 1⟩ hr (ev_add (ev_var 6 rfl) ev_int) (ev_var 0 rfl) hm (ho1 _) rfl rfl <|
      stm_os (os.set m (Feed.o ⟨f.cells, f.spot + 1, f.over, f.turn + 1⟩)) (List.set_set ..) <|
      stm_set 2 (ev_if (d := .int (cellF f)) (tst_eq (tst_cmp (c_neD (n := 4) hr ?_ rfl) (ev_var 5 rfl) (ev_lst arg_nil)) (congrArg (fun b => !b) (eqD_nilL _))) (fun h3 => (ev_ixL (ev_var 5 rfl) (ev_mod (ev_bt b_intI E.B.int boot_int (arg_cons (ev_var 6 rfl) arg_nil)) (ev_bi b_lenL E.B.len boot_len (arg_cons (ev_var 5 rfl) arg_nil)) ?_) ?_)) fun h4 => ev_eq ev_int ?_) nd <|
      stm_env [some (.adr A), some (.int lim), some (.int (cellF f)), none, none, some (.lst (f.cells.map D.int)), some (.int f.spot)] rfl <|
      stm_ifR (bl := bigF f) (tst_eq (tst_w (tsw_and (tst_cmp c_ge (ev_var 2 rfl) (ev_pow ev_int ev_int ⟨by decide, by decide, by decide⟩)) fun h7 => (tsw_and1 (tst_cmp c_lt (ev_var 6 rfl) (ev_bi b_lenL E.B.len boot_len (arg_cons (ev_var 5 rfl) arg_nil)))))) ?_) (fun h5 =>
        stm_feed 2 ⟨f.cells, f.spot + 1, cellF f / lim, f.turn + 1⟩ hr (ev_fdiv (ev_var 2 rfl) (ev_var 1 rfl) ⟨l0, by omega⟩) (ev_var 0 rfl) hm (ho1 _) rfl rfl <|
        stm_ret (ev_mod (ev_bt b_intI E.B.int boot_int (arg_cons (ev_var 2 rfl) arg_nil)) (ev_var 1 rfl) l0) ?_) fun h6 => ?_
      · simp only [okD]
        exact okA_map fun h _ => rfl
      · rw [List.length_map]
        cases hq : f.cells with
        | nil =>
          rw [hq] at h3
          cases h3
        | cons x xs =>
          simp
          try omega
      · have hne : f.cells ≠ [] := fun z => by
          rw [z] at h3
          cases h3
        have hl : 0 < (f.cells.length : Int) := by
          have := List.length_pos_iff.mpr hne
          omega
        have g1 := Int.emod_nonneg f.spot (show (f.cells.length : Int) ≠ 0 by omega)
        have g2 := Int.emod_lt_of_pos f.spot hl
        rw [List.length_map]
        have e1 : f.spot % (f.cells.length : Int) = (((f.spot % (f.cells.length : Int)).toNat : Nat) : Int) := by omega
        rw [e1]
        refine atI_nat ?_
        have hlt : (f.spot % (f.cells.length : Int)).toNat < f.cells.length := by omega
        unfold cellF
        rw [if_neg hne, List.getElem?_map, List.getElem?_eq_getElem hlt, List.getD_eq_getElem?_getD, List.getElem?_eq_getElem hlt]
        rfl
      · have hne : f.cells = [] := by
          cases hq : f.cells with
          | nil => rfl
          | cons x xs =>
            rw [hq] at h4
            cases h4
        unfold cellF
        rw [if_pos hne]
      · rw [List.length_map]
        rfl
      · unfold drawF
        rw [if_neg h2', if_pos h5, List.set_set]
        exact ⟨rfl, rfl⟩
      · have b1 : ∀ c t : Int, 0 ≤ st1F c t ∧ st1F c t < 2147299967 := fun c t => ⟨Int.emod_nonneg _ (by decide), Int.emod_lt_of_pos _ (by decide)⟩
        have b2 : ∀ c t : Int, 0 ≤ st2F c t ∧ st2F c t < 2147302383 := fun c t => ⟨Int.emod_nonneg _ (by decide), Int.emod_lt_of_pos _ (by decide)⟩
        have c1 := b1 (cellF f) (f.turn + 1)
        have c2 := b2 (st1F (cellF f) (f.turn + 1)) (f.turn + 1)
        refine
        stm_set 3 (ev_eq (d := .int (st1F (cellF f) (f.turn + 1))) (ev_mod (ev_bt b_intI E.B.int boot_int (arg_cons (ev_add (ev_add (ev_mod (ev_bt b_intI E.B.int boot_int (arg_cons (ev_var 2 rfl) arg_nil)) ev_int (by decide)) (ev_mul ev_int (ev_feed 3 hr (ev_var 0 rfl) hm (ho1 _) rfl rfl) (.inl (by decide)))) ev_int) arg_nil)) ev_int (by decide)) rfl) nd <|
        stm_set 3 (ev_eq (d := .int (st2F (st1F (cellF f) (f.turn + 1)) (f.turn + 1))) (ev_mod (ev_bt b_intI E.B.int boot_int (arg_cons (ev_add (ev_add (ev_mul (ev_var 3 rfl) (ev_var 3 rfl) (.inl (by omega))) (ev_mul ev_int (ev_feed 3 hr (ev_var 0 rfl) hm (ho1 _) rfl rfl) (.inl (by decide)))) ev_int) arg_nil)) ev_int (by decide)) rfl) nd <|
        stm_ret (ev_mod (ev_bt b_intI E.B.int boot_int (arg_cons (ev_eq (d := .int (st3F (st2F (st1F (cellF f) (f.turn + 1)) (f.turn + 1)))) (ev_fdiv (ev_mod (ev_bt b_intI E.B.int boot_int (arg_cons (ev_add (ev_mul (ev_var 3 rfl) (ev_var 3 rfl) (.inl (by omega))) (ev_mul ev_int (ev_var 3 rfl) (.inl (by decide)))) arg_nil)) ev_int (by decide)) ev_int ⟨by decide, by decide⟩) rfl) arg_nil)) (ev_var 1 rfl) l0) ?_
        unfold drawF
        rw [if_neg h2', if_neg (by rw [h6]; exact Bool.false_ne_true)]
        exact ⟨rfl, rfl⟩
def c_any : Ctr := fun M ds os d os' => ∃ (A : Addr) (m : Nat) (f : Feed) (l : List D), M[m]? = some A ∧ os[m]? = some f.o ∧ ds = [.adr A, .lst l] ∧ l ≠ [] ∧ l.length ≤ 1000 ∧ d = l.getD (drawF f (l.length : Nat)).1.toNat .non ∧ os' = os.set m (drawF f (l.length : Nat)).2.o
theorem ok_any (E : Env1 K mg) : Cl P w K mg base 2 "_law_any" c_any := by
  have nd : (["_law_feed_here", "_law_some"] : List Str).Nodup := by decide +kernel
  refine cl_ok (N := ["_law_feed_here", "_law_some"]) (ps := ["_law_feed_here", "_law_some"]) (E.T.at 56) ⟨rfl, rfl, rfl, nd, rfl, by decide +kernel, by decide +kernel⟩ (fun _ _ _ _ _ _ us hl => match us, hl with | [_, _], _ => rfl) ?_ ?_
  · rintro M ds os d os1 ⟨A, m, f, l, _, _, rfl, _⟩
    rfl
  · rintro fa cdv Ar outer sh H E0 hr M ds os d os1 ⟨A, m, f, l, hm, ho, rfl, hne, hl, rfl, rfl⟩
    have hp := List.length_pos_iff.mpr hne
    obtain ⟨b1, b2⟩ := draw_bd (f := f) (lim := (l.length : Nat)) (by omega)
    refine
    stm_ret (ev_ixL (ev_var 1 rfl) (ev_call (ok_draw E) hr (arg_cons (ev_var 0 rfl) (arg_cons (ev_bi b_lenL E.B.len boot_len (arg_cons (ev_var 1 rfl) arg_nil)) arg_nil)) ⟨A, m, f, (l.length : Nat), hm, ho, rfl, by omega, by omega, rfl, rfl⟩) ?_) ⟨rfl, rfl⟩
    have e1 : (drawF f (l.length : Nat)).1 = (((drawF f (l.length : Nat)).1.toNat : Nat) : Int) := by omega
    rw [e1]
    refine atI_nat ?_
    have hlt : (drawF f (l.length : Nat)).1.toNat < l.length := by omega
    rw [Int.toNat_natCast, List.getElem?_eq_getElem hlt, List.getD_eq_getElem?_getD, List.getElem?_eq_getElem hlt]
    rfl
end
end PW
namespace PW
open PySem PySem.Spec PyProof.Rows L2
/-! ### what a value is not told exactly -/
def tEX (M : List Addr) (os : List MO) (δ : List (Option D)) (Φ : D → List MO → Prop) : TE := fun σ H Q => Sok M os H ∧ EnvR M H σ δ ∧ ∀ d os' v H', Φ d os' → Keep M H H' → Sok M os' H' → R M H' v d → Q v H'
abbrev EvX (X : Cx) (M : List Addr) (os : List MO) (δ : List (Option D)) (e : Expr) (Φ : D → List MO → Prop) : Prop := PE X e (tEX M os δ Φ)
def tIX (M : List Addr) (os : List MO) (δ : List (Option D)) (Φ : List D → List MO → Prop) : TI := fun σ H Rq => Sok M os H ∧ EnvR M H σ δ ∧ ∀ ds os' J H', Φ ds os' → Keep M H H' → Sok M os' H' → itOk M J ds H' → Rq J H'
abbrev WkX (X : Cx) (M : List Addr) (os : List MO) (δ : List (Option D)) (tg iter : Expr) (Φ : List D → List MO → Prop) : Prop := PI X tg iter (tIX M os δ Φ)
section
variable {X : Cx} {M : List Addr} {os os1 os2 os3 : List MO} {δ δ' : List (Option D)} {a b c e tg : Expr} {pos p p2 : Pos} {d : D} {ds : List D} {k : Kt} {rest : List Stmt} {Φ : D → List MO → Prop}
theorem evX_of (h : Ev X M os δ e d os1) : EvX X M os δ e (fun d' os' => d' = d ∧ os' = os1) := pe_imp h fun σ H Q ⟨s, en, q⟩ => ⟨s, en, fun v H1 k1 s1 r1 => q d os1 v H1 ⟨rfl, rfl⟩ k1 s1 r1⟩
theorem evX_mono {Ψ : D → List MO → Prop} (h : EvX X M os δ e Φ) (hm : ∀ d os', Φ d os' → Ψ d os') : EvX X M os δ e Ψ := pe_imp h fun σ H Q ⟨s, en, q⟩ => ⟨s, en, fun d os' v H1 w k1 s1 r1 => q d os' v H1 (hm _ _ w) k1 s1 r1⟩
theorem evX_cutT {l h : Option Int} {hi : Option Expr} (ha : EvX X M os δ a Φ) (hΦ : ∀ d os', Φ d os' → ∃ ds, d = .tup ds) (hh : ∀ os', Prt X M os' δ hi h os') : EvX X M os δ (.Subscript a (.Slice none hi none p2) pos) (fun d' os' => ∃ ds, Φ (.tup ds) os' ∧ d' = .tup (cutD ds none h)) := by
  have hh2 : PO X hi (fun σ H Q => ∃ os', tO M os' δ h os' σ H Q) := ⟨fun pins s σ H Q I ⟨os', w⟩ => (hh os').run pins s σ H Q I w⟩
  refine pe_imp (pe_slice sl_tupA ha po_none hh2) fun σ H Q ⟨s, en, kq⟩ => ⟨s, en, fun d os' v H1 w k1 s1 r1 => ⟨os', s1, en.keep k1, fun H3 k3 s3 => ?_⟩⟩
  obtain ⟨ds, rfl⟩ := hΦ _ _ w
  cases r1 with
  | @tup q xs _ h1 hm hr =>
    have hH := k3.old _ _ hm h1
    have r3 := hr.keep k3
    refine ⟨q, xs, rfl, .of hH, fun z => ?_, fun z p hp => ?_⟩
    · refine kq _ _ _ _ ⟨ds, w, rfl⟩ (k1.trans k3) s3 (.tup hH hm ?_)
      have e : cutV xs none h = xs := by
        unfold cutV
        rw [z.1, z.2]
        simp
      have e2 := cut_RA r3 none h
      rw [e] at e2
      exact e2
    · exact kq _ _ _ _ ⟨ds, w, rfl⟩ ((k1.trans k3).trans (Ext.new hp).keep) (s3.ext (Ext.new hp)) (new_tup s3 hp (cut_RA r3 none h))
theorem stm_setX (i : Nat) {x : Str} {py : Pos} (he : EvX X M os δ e Φ) (hN : X.N.Nodup) (hr : ∀ d os', Φ d os' → Stm X M os' (δ.set i (some d)) rest k) (hi : X.N[i]? = some x := by rfl) (hx : Loc X.env.scope x := by first | exact Or.inl rfl | exact Or.inr rfl)
    (hs : swapsWith e (some (.Name x py)) pos.line X.env = pure false := by rfl) (hf : X.fn x = true ∨ X.env.scope.names.lookup x = some .local := by first | exact .inl rfl | exact .inr rfl) : Stm X M os δ (.Assign [.Name x py] e pos :: rest) k := by
  have hrest : PSs X rest (fun Dn σ H => ∃ d os', Φ d os' ∧ tS M os' (δ.set i (some d)) k Dn σ H) := ⟨fun pins s σ H Dn I ⟨d, os', h, w⟩ => (hr d os' h).run pins s σ H Dn I w⟩
  exact pss_imp (pss_cons (ps_set hN hi hx he hs hf) hrest) fun Dn σ H ⟨s, en, n, r⟩ => ⟨s, en, fun d os' v H1 w k1 s1 r1 => ⟨d, os', w, tS_go k1 s1 ((en.keep k1).set i r1) n r⟩⟩
theorem wkX_lst {Ψ : List D → List MO → Prop} (h : EvX X M os δ e Φ) (hΦ : ∀ d os', Φ d os' → ∃ ds, d = .lst ds ∧ Ψ ds os') : WkX X M os δ tg e Ψ := pi_imp (pi_list h) fun σ H Rq ⟨s, en, k⟩ => ⟨s, en, fun d os' v H1 w k1 s1 r1 => by
  obtain ⟨ds, rfl, hw⟩ := hΦ _ _ w
  cases r1 with
  | @lst a xs _ h1 hm hr =>
    refine ⟨a, rfl, ⟨xs, .of h1⟩, k ds os' _ _ hw k1 s1 fun N hN hM i H2 k2 hd => ⟨fun d hd => ?_, fun hi => ?_⟩⟩
    · have hq : H2 a = some (.lst xs) := k2.old _ _ (hN a (by rw [h1]; simp) hm) h1
      obtain ⟨v, hv, rv⟩ := hr.get hd
      refine ⟨⟨xs, v, .of hq, hv⟩, fun x H' ⟨e1, e2⟩ => ?_⟩
      subst e1
      have e3 := e2 xs (.of hq)
      rw [hv] at e3
      cases e3
      exact ⟨Ext.refl, (rv.sub fun a ha hn => hN a ha hn).keep k2⟩
    · have hq : H2 a = some (.lst xs) := k2.old _ _ (hN a (by rw [h1]; simp) hm) h1
      exact ⟨xs, .of hq, by rw [hr.length]; omega⟩⟩
theorem stm_forX {Ψ : List D → List MO → Prop} {iter : Expr} {body : List Stmt} {sl : List Nat} {φ} (hi : WkX X M os δ tg iter Ψ) (hg : Tgt X M tg sl φ) (J : List D → Nat → List (Option D) → List MO → Prop) (h0 : ∀ ds os1, Ψ ds os1 → J ds 0 δ os1)
    (turn : ∀ (ds : List D) (os1 : List MO) (i : Nat) d δ' os', Ψ ds os1 → ds[i]? = some d → J ds i δ' os' → ∃ δ2, φ d δ' = some δ2 ∧ Stm X M os' δ2 body ⟨M, k.mr, J ds (i + 1), k.rt⟩) (hr : ∀ ds os1 δ' os', Ψ ds os1 → J ds ds.length δ' os' → Stm X M os' δ' rest k) (hp : PassesOwn (model X.prog X.w) X.A X.env X.xe) (hc : X.calm = true)
    (hs : ∀ x, foldedSetIterable iter X.env x = pure x := by intro _; rfl) : Stm X M os δ (.For tg iter body [] pos :: rest) k := by
  have hrest : PSs X rest (fun Dn σ H => ∃ ds os1 δ' os', Ψ ds os1 ∧ J ds ds.length δ' os' ∧ tS M os' δ' k Dn σ H) := ⟨fun pins s σ H Dn I ⟨ds, os1, δ', os', g, h, w⟩ => (hr ds os1 δ' os' g h).run pins s σ H Dn I w⟩
  have hbody : PSs X body (fun Dn σ H => ∃ (ds : List D) (os1 : List MO) (i : Nat) (d : D) (δ' : List (Option D)) (os' : List MO) (δ2 : List (Option D)), Ψ ds os1 ∧ ds[i]? = some d ∧ J ds i δ' os' ∧ φ d δ' = some δ2 ∧ tS M os' δ2 ⟨M, k.mr, J ds (i + 1), k.rt⟩ Dn σ H) := ⟨fun pins s σ H Dn I ⟨ds, os1, i, d, δ', os', δ2, h0, h1, h2, h3, w⟩ => by
    obtain ⟨δ3, e3, q⟩ := turn ds os1 i d δ' os' h0 h1 h2
    rw [h3] at e3
    cases e3
    exact q.run pins s σ H Dn I w⟩
  refine pss_imp (pss_cons (ps_for hp hc hi hg hbody hs) hrest) fun Dn σ H ⟨s, en, n, r⟩ => ⟨s, en, fun ds os1 It H1 hΨ k1 s1 ok => ?_⟩
  refine ⟨fun i m σ' H' => m = ds.length - i ∧ i ≤ ds.length ∧ ∃ δ' os', Keep M H1 H' ∧ Sok M os' H' ∧ EnvR M H' σ' δ' ∧ J ds i δ' os', ⟨ds.length, by simp, Nat.zero_le _, δ, os1, .refl, s1, en.keep k1, h0 ds os1 hΨ⟩, ?_⟩
  rintro i m σ' H' ⟨rfl, hi, δ', os', k2, s2, e2, hJ⟩
  obtain ⟨go, stop⟩ := ok M (fun a _ h => h) (fun a h => h) i H' k2 s2.dom
  by_cases hl : i < ds.length
  · obtain ⟨g1, g2⟩ := go ds[i] (List.getElem?_eq_getElem hl)
    obtain ⟨δ2, q1, q2⟩ := turn ds os1 i ds[i] δ' os' hΨ (List.getElem?_eq_getElem hl) hJ
    refine .inr ⟨g1, fun σ2 H2 => ∃ δ3 os3, Keep M H1 H2 ∧ Sok M os3 H2 ∧ EnvR M H2 σ2 δ3 ∧ J ds (i + 1) δ3 os3, fun σ2 H2 w => ⟨ds.length - (i + 1), by omega, rfl, hl, w⟩, fun x H2 y => ?_⟩
    obtain ⟨x1, x2⟩ := g2 x H2 y
    refine ⟨ds[i], δ', δ2, x2, e2.keep x1.keep, q1, fun σ3 e3 _ => ⟨ds, os1, i, ds[i], δ', os', δ2, hΨ, List.getElem?_eq_getElem hl, hJ, q1, s2.ext x1, e3, fun σ4 H4 δ4 os4 k4 s4 e4 w => ⟨δ4, os4, (k2.trans x1.keep).trans k4, s4, e4, w⟩, fun v d H4 os4 k4 => ?_⟩⟩
    exact r v d H4 os4 (((k1.trans k2).trans x1.keep).trans k4)
  · have e : i = ds.length := by omega
    subst e
    exact .inl ⟨stop rfl, ds, os1, δ', os', hΨ, hJ, tS_go (k1.trans k2) s2 e2 n r⟩
end
/-! ### contracts that tell a property of the answer -/
abbrev CtrX := List Addr → List D → List MO → (D → List MO → Prop) → Prop
def spX (C : CtrX) : Sp := fun vs H Q _ => ∃ M os ds Φ, Sok M os H ∧ RA M H vs ds ∧ C M ds os Φ ∧ ∀ d os' v H', Φ d os' → Keep M H H' → Sok M os' H' → R M H' v d → Q v H'
abbrev BdyX (X : Cx) (N : List Str) (body : List Stmt) (C : CtrX) : Prop := ∀ M ds os Φ, C M ds os Φ → Stm X M os (ds.map some ++ List.replicate (N.length - ds.length) none) body ⟨M, M, fun _ os1 => Φ .non os1, Φ⟩
theorem bdyX_ok {X : Cx} {N : List Str} {body : List Stmt} {C : CtrX} {vs : List V} {H : Hp} {Q : VK} {E : XK} (hb : BdyX X N body C) (h : spX C vs H Q E) : ∃ t, PSs X body t ∧ t { nx := fun _ H' => Q .non H', rt := Q } (L2.start N vs) H := by
  obtain ⟨M, os, ds, Φ, s, r, c, q⟩ := h
  exact ⟨_, hb M ds os Φ c, s, EnvR.start r, fun σ' H' δ' os1 k s1 e1 w => q _ _ _ _ w k s1 .non, fun v d1 H' os1 k s1 r1 w => q _ _ _ _ w k s1 r1⟩
section
variable {P : Program} {w : World} {K : PySem.W.Frag} {mg : Str → Option Value} {base : Heap}
abbrev ClX (P : Program) (w : World) (K : PySem.W.Frag) (mg : Str → Option Value) (base : Heap) (k : Nat) (x : Str) (C : CtrX) : Prop := C8.Cal P w K mg base k x (spX C) []
theorem clX_ok {x : Str} {st : Stmt} {N ps : List Str} {k : Nat} {C : CtrX} (h : HasD K mg x st) (S : FnScope N ps (defScope st))
    (hb : ∀ (kV doc pm : Value) (an : Option Addr) (cdv ct : Value) (us : List Value), us.length = ps.length → bindArgs (PySem.W.fnOf x x (defArgs st) (defBody st) (defScope st) .none kV doc pm an cdv ct) ⟨us, []⟩ = pure (ps.zip us))
    (hl : ∀ M ds os Φ, C M ds os Φ → ds.length = ps.length)
    (body : ∀ (f : Addr) (cdv : Value) (A : Around) (outer : List Env) (s : Shared) (H : Hp) (E : XK), Room k (A.deeper (envOfC x (defScope st) s.heap.objs.size f cdv)) →
      BdyX (cxOf C8.CX0 P w K mg base N x (defScope st) f cdv A outer s H E).nox N (defBody st) C) : ClX P w K mg base (k + 1) x C := by
  obtain ⟨f, fd, F, hm⟩ := h.ex
  exact ⟨f, fd, ps, [], F.ok S (fun vs H Q E ⟨M, os, ds, Φ, s, r, c, _⟩ => by rw [r.length]; exact hl _ _ _ _ c) fun cdv A outer s H vs Q E hr hsp => by
    obtain ⟨t, h1, h2⟩ := bdyX_ok (body f cdv A outer s H E hr) hsp
    exact ⟨t, h1.nox, h2⟩, hm, F.kp, F.bindsN hb, .nil⟩
end
section
variable {X : Cx} {M : List Addr} {os os1 os2 os3 : List MO} {δ : List (Option D)} {a b c e : Expr} {pos p : Pos} {d da db : D} {j n k : Nat} {x : Str} {C : CtrX} {es : List Expr} {ds : List D}
theorem evX_call (Φ : D → List MO → Prop) (c : C8.Cal X.prog X.w X.K X.mg X.base k x (spX C) []) (hr : Room j X.A) (ha : Arg X M os δ (e :: es) ds os1) (hC : C M ds os1 Φ) (hk : k ≤ j := by decide) (hg : Gl X x := by rfl) (hdb : (x == ("__debug__" : Str)) = false := by decide)
    (he : starEach (e :: es) X.env = (false, eval e X.env) :: starEach es X.env := by rfl) (hpl : (backTo pos (starEach es X.env)).any (·.1) = false := by rfl) : EvX X M os δ (.Call (.Name x p) (e :: es) [] pos) Φ :=
  pe_imp (C8.pe_c c hr hk hg ha hdb he hpl) fun σ H Q ⟨s, en, kq⟩ => ⟨s, en, fun vs H1 k1 s1 r1 => by
    show spX C (vs ++ []) H1 Q C8.E0
    rw [List.append_nil]
    exact ⟨M, os1, ds, Φ, s1, r1, hC, fun d os' v H2 w k2 s2 r2 => kq d os' v H2 w (k1.trans k2) s2 r2⟩⟩
end
end PW
namespace PW
open PySem PySem.Spec PyProof.Rows L2
/-! ### what the law draws -/
structure Vol where
  s : Snd
  stop : D
  r : Roa
  e : Ear
def Snd.ds (s : Snd) (stop : D) : D := .tup [.int s.a, .int s.b, .int s.n, .int s.c, .int s.m, stop]
def Vol.d (v : Vol) : D := .tup [v.s.ds v.stop, v.r.d, v.e.d]
structure Vol.Ok (v : Vol) : Prop where
  a1 : 1 ≤ v.s.a
  a2 : v.s.a ≤ 3
  b1 : v.s.a ≤ v.s.b
  b2 : v.s.b ≤ 5
  n1 : 1 ≤ v.s.n
  n2 : v.s.n ≤ 3
  c1 : 1 ≤ v.s.c
  c2 : v.s.c ≤ 2
  m1 : 1 ≤ v.s.m
  m2 : v.s.m ≤ 5
  p1 : 0 ≤ v.r.p
  p2 : v.r.p ≤ 2
  q1 : 0 ≤ v.r.q
  q2 : v.r.q ≤ 5
  e : v.e.Ok
theorem Vol.Ok.so {v : Vol} (h : v.Ok) : v.s.Ok := ⟨h.a1, by have := h.a2; omega, h.b1, by have := h.b2; omega, h.n1, by have := h.n2; omega, h.c1, by have := h.c2; omega, h.m1⟩
theorem Vol.Ok.ro {v : Vol} (h : v.Ok) : v.r.Ok := ⟨h.p1, by have := h.p2; omega, h.q1, by have := h.q2; omega⟩
theorem any_str {i : Int} (h0 : 0 ≤ i) (h1 : i < 3) : ∃ x : Str, ([D.str "eldest", .str "newest", .str "slowest"].getD i.toNat .non) = .str x ∧ (x = "eldest" ∨ x = "newest" ∨ x = "slowest") := by
  have h : i = 0 ∨ i = 1 ∨ i = 2 := by omega
  rcases h with rfl | rfl | rfl
  · exact ⟨_, rfl, .inl rfl⟩
  · exact ⟨_, rfl, .inr (.inl rfl)⟩
  · exact ⟨_, rfl, .inr (.inr rfl)⟩
theorem any_int {i : Int} (h0 : 0 ≤ i) (h1 : i < 4) : ∃ x : Int, ([D.int 1, .int 2, .int 2, .int 3].getD i.toNat .non) = .int x ∧ 1 ≤ x ∧ x ≤ 3 := by
  have h : i = 0 ∨ i = 1 ∨ i = 2 ∨ i = 3 := by omega
  rcases h with rfl | rfl | rfl | rfl <;> exact ⟨_, rfl, by decide, by decide⟩
theorem any_more {i : Int} (h0 : 0 ≤ i) (h1 : i < 4) : ∃ x : Int, ([D.int 0, .int 0, .int 0, .int 1].getD i.toNat .non) = .int x := by
  have h : i = 0 ∨ i = 1 ∨ i = 2 ∨ i = 3 := by omega
  rcases h with rfl | rfl | rfl | rfl <;> exact ⟨_, rfl⟩
section
variable {P : Program} {w : World} {K : PySem.W.Frag} {mg : Str → Option Value} {base : Heap}
def c_volume : CtrX := fun M ds os Φ => ∃ (A : Addr) (M0 : List Addr) (f : Feed) (os0 : List MO), M = A :: M0 ∧ os = f.o :: os0 ∧ ds = [.adr A] ∧ ∀ (v : Vol) (f' : Feed), v.Ok → Φ v.d (f'.o :: os0)
theorem ok_volume (E : Env1 K mg) : ClX P w K mg base 3 "_law_volume" c_volume := by
  have nd : (["_law_feed_here", "_law_a", "_law_stop", "_law_rule", "_law_front", "_law_ears"] : List Str).Nodup := by decide +kernel
  refine clX_ok (N := ["_law_feed_here", "_law_a", "_law_stop", "_law_rule", "_law_front", "_law_ears"]) (ps := ["_law_feed_here"]) (E.T.at 58) ⟨rfl, rfl, rfl, nd, rfl, by decide +kernel, by decide +kernel⟩ (fun _ _ _ _ _ _ us hl => match us, hl with | [_], _ => rfl) ?_ ?_
  · rintro M ds os Φ ⟨A, M0, f, os0, _, _, rfl, _⟩
    rfl
  · rintro fa cdv Ar outer sh H E0 hr M ds os Φ ⟨A, M0, f, os0, rfl, rfl, rfl, hΦ⟩
    have bd : ∀ (f : Feed) (lim : Int), 0 < lim → 0 ≤ (drawF f lim).1 ∧ (drawF f lim).1 < lim := fun f lim h => draw_bd h
    refine
    stm_set 1 (ev_add ev_int (ev_call (ok_draw E) hr (arg_cons (ev_var 0 rfl) (arg_cons ev_int arg_nil)) ⟨A, 0, f, 3, rfl, rfl, rfl, by decide, by decide, rfl, rfl⟩)) nd ?_
    obtain ⟨a0, a1⟩ := bd f 3 (by decide)
    generalize (drawF f 3).1 = a at *
    generalize (drawF f 3).2 = f1 at *
    refine stm_env [some (.adr A), some (.int (1 + a)), none, none, none, none] rfl ?_
    have main : ∀ (f2 : Feed) (st : D), Stm (cxOf C8.CX0 P w K mg base ["_law_feed_here", "_law_a", "_law_stop", "_law_rule", "_law_front", "_law_ears"] "_law_volume" (defScope (top 88)) fa cdv Ar outer sh H E0).nox (A :: M0) (f2.o :: os0) [some (.adr A), some (.int (1 + a)), some st, none, none, none] ((defBody (top 88)).drop 2) ⟨A :: M0, A :: M0, fun _ os1 => Φ .non os1, Φ⟩ := by
      intro f2 st
      obtain ⟨g1, g2⟩ := bd f2 3 (by decide)
      obtain ⟨x, ex, hx⟩ := any_str g1 g2
      refine stm_set 3 (ev_eq (d := .str x) (ev_call (ok_any E) hr (arg_cons (ev_var 0 rfl) (arg_cons (ev_lst (arg_cons ev_str (arg_cons ev_str (arg_cons ev_str arg_nil)))) arg_nil)) ⟨A, 0, f2, _, rfl, rfl, rfl, by simp, by simp, rfl, rfl⟩) ex) nd ?_
      generalize hf3 : (drawF f2 ((([D.str "eldest", .str "newest", .str "slowest"] : List D).length : Nat) : Int)).2 = f3
      refine stm_env [some (.adr A), some (.int (1 + a)), some st, some (.str x), none, none] rfl <| stm_os (f3.o :: os0) (by rw [← hf3] <;> rfl) ?_
      obtain ⟨b0, b1⟩ := bd f3 3 (by decide)
      obtain ⟨n0, n1⟩ := bd (drawF f3 3).2 4 (by decide)
      obtain ⟨n, en, hn0, hn1⟩ := any_int n0 n1
      obtain ⟨c0, c1⟩ := bd (drawF (drawF f3 3).2 4).2 2 (by decide)
      refine stm_set 4 (d := .tup [.int (1 + a), .int (1 + a + (drawF f3 3).1), .int n, .int (1 + (drawF (drawF (drawF f3 3).2 4).2 2).1)]) (ev_tup (arg_cons (ev_var 1 rfl) (arg_cons (ev_add (ev_var 1 rfl) (ev_call (ok_draw E) hr (arg_cons (ev_var 0 rfl) (arg_cons ev_int arg_nil)) ⟨A, 0, f3, 3, rfl, rfl, rfl, by decide, by decide, rfl, rfl⟩)) (arg_cons (ev_eq (d := .int n) (ev_call (ok_any E) hr (arg_cons (ev_var 0 rfl) (arg_cons (ev_lst (arg_cons ev_int (arg_cons ev_int (arg_cons ev_int (arg_cons ev_int arg_nil))))) arg_nil)) ⟨A, 0, (drawF f3 3).2, _, rfl, rfl, rfl, by simp, by simp, rfl, rfl⟩) en) (arg_cons (ev_add ev_int (ev_call (ok_draw E) hr (arg_cons (ev_var 0 rfl) (arg_cons ev_int arg_nil)) ⟨A, 0, (drawF (drawF f3 3).2 4).2, 2, rfl, rfl, rfl, by decide, by decide, rfl, rfl⟩)) arg_nil))))) nd ?_
      generalize (drawF (drawF (drawF f3 3).2 4).2 2).1 = c at *
      generalize hf4 : (drawF (drawF (drawF f3 3).2 4).2 2).2 = f4
      generalize (drawF f3 3).1 = b at *
      refine stm_env [some (.adr A), some (.int (1 + a)), some st, some (.str x), some (.tup [.int (1 + a), .int (1 + a + b), .int n, .int (1 + c)]), none] rfl <| stm_os (f4.o :: os0) (by rw [← hf4] <;> rfl) ?_
      obtain ⟨w0, w1⟩ := bd f4 7 (by decide)
      obtain ⟨m0, m1⟩ := bd (drawF f4 7).2 6 (by decide)
      obtain ⟨r0, r1⟩ := bd (drawF (drawF f4 7).2 6).2 3 (by decide)
      refine stm_set 5 (ev_tup (arg_cons (ev_call (ok_draw E) hr (arg_cons (ev_var 0 rfl) (arg_cons ev_int arg_nil)) ⟨A, 0, f4, 7, rfl, rfl, rfl, by decide, by decide, rfl, rfl⟩) (arg_cons (ev_call (ok_draw E) hr (arg_cons (ev_var 0 rfl) (arg_cons ev_int arg_nil)) ⟨A, 0, (drawF f4 7).2, 6, rfl, rfl, rfl, by decide, by decide, rfl, rfl⟩) (arg_cons (ev_add ev_int (ev_call (ok_draw E) hr (arg_cons (ev_var 0 rfl) (arg_cons ev_int arg_nil)) ⟨A, 0, (drawF (drawF f4 7).2 6).2, 3, rfl, rfl, rfl, by decide, by decide, rfl, rfl⟩)) (arg_cons (ev_var 3 rfl) arg_nil))))) nd ?_
      generalize (drawF (drawF (drawF f4 7).2 6).2 3).1 = rm at *
      generalize hf5 : (drawF (drawF (drawF f4 7).2 6).2 3).2 = f5
      generalize (drawF (drawF f4 7).2 6).1 = me at *
      generalize (drawF f4 7).1 = wt at *
      refine stm_env [some (.adr A), some (.int (1 + a)), some st, some (.str x), some (.tup [.int (1 + a), .int (1 + a + b), .int n, .int (1 + c)]), some (.tup [.int wt, .int me, .int (1 + rm), .str x])] rfl <| stm_os (f5.o :: os0) (by rw [← hf5] <;> rfl) ?_
      obtain ⟨k0, k1⟩ := bd f5 5 (by decide)
      obtain ⟨p0, p1⟩ := bd (drawF f5 5).2 3 (by decide)
      obtain ⟨q0, q1⟩ := bd (drawF (drawF f5 5).2 3).2 6 (by decide)
      exact stm_ret (ev_tup (arg_cons (ev_catT (ev_var 4 rfl) (ev_tup (arg_cons (ev_add ev_int (ev_call (ok_draw E) hr (arg_cons (ev_var 0 rfl) (arg_cons ev_int arg_nil)) ⟨A, 0, f5, 5, rfl, rfl, rfl, by decide, by decide, rfl, rfl⟩)) (arg_cons (ev_var 2 rfl) arg_nil)))) (arg_cons (ev_tup (arg_cons (ev_call (ok_draw E) hr (arg_cons (ev_var 0 rfl) (arg_cons ev_int arg_nil)) ⟨A, 0, (drawF f5 5).2, 3, rfl, rfl, rfl, by decide, by decide, rfl, rfl⟩) (arg_cons (ev_call (ok_draw E) hr (arg_cons (ev_var 0 rfl) (arg_cons ev_int arg_nil)) ⟨A, 0, (drawF (drawF f5 5).2 3).2, 6, rfl, rfl, rfl, by decide, by decide, rfl, rfl⟩) arg_nil))) (arg_cons (ev_var 5 rfl) arg_nil))))
        (hΦ ⟨⟨1 + a, 1 + a + b, n, 1 + c, 1 + (drawF f5 5).1⟩, st, ⟨(drawF (drawF f5 5).2 3).1, (drawF (drawF (drawF f5 5).2 3).2 6).1⟩, ⟨wt, me, 1 + rm, x⟩⟩ (drawF (drawF (drawF f5 5).2 3).2 6).2 ⟨by simp only; omega, by simp only; omega, by simp only; omega, by simp only; omega, hn0, hn1, by simp only; omega, by simp only; omega, by simp only; omega, by simp only; omega, p0, by simp only; omega, q0, by simp only; omega, ⟨w0, m0, by simp only; omega, hx⟩⟩)
    rcases Classical.em ((drawF f1 3).1 = 0) with hz | hz
    · exact stm_set 2 (ev_ifT (tst_eq (tst_cmp c_eqI (ev_call (ok_draw E) hr (arg_cons (ev_var 0 rfl) (arg_cons ev_int arg_nil)) ⟨A, 0, f1, 3, rfl, rfl, rfl, by decide, by decide, rfl, rfl⟩) ev_int) (decide_eq_true hz)) (ev_add (ev_var 1 rfl) (ev_call (ok_draw E) hr (arg_cons (ev_var 0 rfl) (arg_cons ev_int arg_nil)) ⟨A, 0, (drawF f1 3).2, 9, rfl, rfl, rfl, by decide, by decide, rfl, rfl⟩))) nd (main _ _)
    · exact stm_set 2 (ev_ifF (tst_eq (tst_cmp c_eqI (ev_call (ok_draw E) hr (arg_cons (ev_var 0 rfl) (arg_cons ev_int arg_nil)) ⟨A, 0, f1, 3, rfl, rfl, rfl, by decide, by decide, rfl, rfl⟩) ev_int) (decide_eq_false hz)) ev_non) nd (main _ _)
end
end PW
namespace PW
open PySem PySem.Spec PyProof.Rows L2
section
variable {X : Cx} {M : List Addr} {os os1 : List MO} {δ : List (Option D)} {es : List Expr} {ds : List D} {rest : List Stmt} {k : Kt} {pos : Pos}
/-- x = [e, ..] .., the list told of from here on -/
theorem stm_newA (i : Nat) {x : Str} {py p1 : Pos} (ha : Arg X M os δ es ds os1) (hN : X.N.Nodup) (hr : ∀ L, Stm X (L :: M) (.lst ds :: os1) (δ.set i (some (.adr L))) rest k) (hz : ds.length ≤ 1000000 := by first | exact Nat.le_of_ble_eq_true rfl | omega | (simp; omega)) (hi : X.N[i]? = some x := by rfl) (hx : Loc X.env.scope x := by first | exact Or.inl rfl | exact Or.inr rfl)
    (hs : swapsWith (.List es p1) (some (.Name x py)) pos.line X.env = pure false := by rfl) (hf : X.fn x = true ∨ X.env.scope.names.lookup x = some .local := by first | exact .inl rfl | exact .inr rfl) : Stm X M os δ (.Assign [.Name x py] (.List es p1) pos :: rest) k := by
  have hrest : PSs X rest (fun Dn σ H => ∃ L, tS (L :: M) (.lst ds :: os1) (δ.set i (some (.adr L))) k Dn σ H) := ⟨fun pins s σ H Dn I ⟨L, w⟩ => (hr L).run pins s σ H Dn I w⟩
  exact pss_imp (pss_cons (ps_set hN hi hx (pe_lst ha) hs hf) hrest) fun Dn σ H ⟨s, en, n, r⟩ => ⟨s, en, fun vs H1 k1 s1 r1 => ⟨by rw [r1.length]; exact sz_ok hz, fun L hL => ⟨L, s1.more hL (Ext.new hL) ⟨vs, upd_same, (r1.sub fun b hb nn z => by
      rcases List.mem_cons.mp z with z | z
      · exact hb (z ▸ hL)
      · exact nn z).keep (Ext.new hL).keep⟩, (((en.keep k1).more hL).keep (Ext.new hL).keep).set i (.adr L),
    fun σ' H' δ' os' k2 => n σ' H' δ' os' (k1.trans (Keep.fill hL k2)), fun v d H' os' k2 => r v d H' os' (k1.trans (Keep.fill hL k2))⟩⟩⟩
end
/-! ### starts -/
structure StOk (s : Snd) (st : List (Int × Int)) : Prop where
  ne : st ≠ []
  len : st.length ≤ 5
  nm : ∀ q ∈ st, 0 ≤ q.2 ∧ q.2 < s.m
  step : ∀ i q q', st[i]? = some q → st[i + 1]? = some q' → (s.a ≤ q'.1 - q.1 ∧ q'.1 - q.1 ≤ s.b) ∧ q'.2 = (q.2 + 1) % s.m
  fst : ∀ q, st[0]? = some q → -20 ≤ q.1 ∧ q.1 < 20
theorem StOk.one {s : Snd} {m n : Int} (h : -20 ≤ m ∧ m < 20) (h2 : 0 ≤ n ∧ n < s.m) : StOk s [(m, n)] := ⟨by simp, by simp, by simpa using h2, fun i q q' _ h => by simp at h, fun q h => by
  simp at h
  subst h
  exact h⟩
theorem StOk.more {s : Snd} {st : List (Int × Int)} {q : Int × Int} {m n : Int} (h : StOk s st) (hl : st.length < 5) (hq : st.getLast? = some q) (h1 : s.a ≤ m - q.1 ∧ m - q.1 ≤ s.b) (h2 : n = (q.2 + 1) % s.m) (hm : 1 ≤ s.m) : StOk s (st ++ [(m, n)]) := by
  have hp := List.length_pos_iff.mpr h.ne
  refine ⟨by simp, by simp; omega, fun x hx => ?_, fun i x x' e1 e2 => ?_, fun x e => ?_⟩
  · rcases List.mem_append.mp hx with z | z
    · exact h.nm x z
    · simp at z
      subst z
      subst h2
      exact ⟨Int.emod_nonneg _ (by omega), Int.emod_lt_of_pos _ (by omega)⟩
  · by_cases hi : i + 1 < st.length
    · rw [List.getElem?_append_left (by omega)] at e1
      rw [List.getElem?_append_left hi] at e2
      exact h.step i x x' e1 e2
    · have hi2 : i + 1 = st.length := by
        have := (List.getElem?_eq_some_iff.mp e2).1
        simp at this
        omega
      rw [hi2, List.getElem?_append_right (Nat.le_refl _)] at e2
      simp at e2
      subst e2
      rw [List.getElem?_append_left (by omega)] at e1
      rw [List.getLast?_eq_getElem?] at hq
      rw [show i = st.length - 1 by omega, hq] at e1
      cases e1
      exact ⟨h1, h2⟩
  · rw [List.getElem?_append_left hp] at e
    exact h.fst x e
section
variable {P : Program} {w : World} {K : PySem.W.Frag} {mg : Str → Option Value} {base : Heap}
def c_starts : CtrX := fun M ds os Φ => ∃ (A : Addr) (M0 : List Addr) (f : Feed) (os0 : List MO) (s : Snd) (r : Roa) (e : Ear), M = A :: M0 ∧ os = f.o :: os0 ∧ ds = [.adr A, bookD s r e, .int 5] ∧ s.Ok ∧ s.m ≤ 1000 ∧ ∀ (st : List (Int × Int)) (f' : Feed), StOk s st → Φ (.tup (st.map pD)) (f'.o :: os0)
theorem ok_starts (E : Env1 K mg) : ClX P w K mg base 2 "_law_starts" c_starts := by
  have nd : (["_law_feed_here", "_law_volume_here", "_law_most", "_law_found", "_law_lap", "_law_a", "_law_b", "_law_n", "_law_twice", "_law_names", "_law_stop", "_law_moment", "_law_mark"] : List Str).Nodup := by decide +kernel
  refine clX_ok (N := ["_law_feed_here", "_law_volume_here", "_law_most", "_law_found", "_law_lap", "_law_a", "_law_b", "_law_n", "_law_twice", "_law_names", "_law_stop", "_law_moment", "_law_mark"]) (ps := ["_law_feed_here", "_law_volume_here", "_law_most"]) (E.T.at 59) ⟨rfl, rfl, rfl, nd, rfl, by decide +kernel, by decide +kernel⟩ (fun _ _ _ _ _ _ us hl => match us, hl with | [_, _, _], _ => rfl) ?_ ?_
  · rintro M ds os Φ ⟨A, M0, f, os0, s, r, e, _, _, rfl, _⟩
    rfl
  · rintro fa cdv Ar outer sh H E0 hr M ds os Φ ⟨A, M0, f, os0, s, r, e, rfl, rfl, rfl, so, sm, hΦ⟩
    have m1 := so.m1
    have b1 := so.b1
    have b2 := so.b2
    have a1 := so.a1
    obtain ⟨x0, x1⟩ := draw_bd (f := f) (lim := 40) (by decide)
    obtain ⟨y0, y1⟩ := draw_bd (f := (drawF f 40).2) (lim := s.m) (by omega)
    refine
    stm_env [some (.adr A), some (bookD s r e), some (.int 5), none, none, none, none, none, none, none, none, none, none] rfl <|
    stm_asg (ev_ixT (i := 0) (d := s.d) (ev_var 1 rfl) ev_int rfl) (tgt_tup rfl (tgts_cons (tgt_name 5 nd) (tgts_cons (tgt_name 6 nd) (tgts_cons (tgt_name 7 nd) (tgts_cons (tgt_name 8 nd) (tgts_cons (tgt_name 9 nd) (tgts_cons (tgt_name 10 nd) tgts_nil)))))) (fCons_len (fCons_len (fCons_len (fCons_len (fCons_len (fCons_len fNil_len))))))) rfl <|
    stm_env [some (.adr A), some (bookD s r e), some (.int 5), none, none, some (.int s.a), some (.int s.b), some (.int s.n), some (.int s.c), some (.int s.m), some .non, none, none] rfl <|
    stm_newA 3 (arg_cons (ev_tup (arg_cons (ev_sub (ev_call (ok_draw E) hr (arg_cons (ev_var 0 rfl) (arg_cons ev_int arg_nil)) ⟨A, 0, f, 40, rfl, rfl, rfl, by decide, by decide, rfl, rfl⟩) ev_int) (arg_cons (ev_call (ok_draw E) hr (arg_cons (ev_var 0 rfl) (arg_cons (ev_var 9 rfl) arg_nil)) ⟨A, 0, (drawF f 40).2, s.m, rfl, rfl, rfl, by omega, by omega, rfl, rfl⟩) arg_nil))) arg_nil) nd fun L => ?_
    generalize hf3 : (drawF (drawF f 40).2 s.m).2 = f3
    obtain ⟨z0, z1⟩ := draw_bd (f := f3) (lim := 5) (by decide)
    have st0 : StOk s [((drawF f 40).1 - 20, (drawF (drawF f 40).2 s.m).1)] := StOk.one (by omega) ⟨y0, y1⟩
    generalize (drawF (drawF f 40).2 s.m).1 = y at *
    generalize (drawF f 40).1 = x at *
    refine
    stm_env [some (.adr A), some (bookD s r e), some (.int 5), some (.adr L), none, some (.int s.a), some (.int s.b), some (.int s.n), some (.int s.c), some (.int s.m), some .non, none, none] rfl <|
    stm_os (.lst ([(x - 20, y)].map pD) :: f3.o :: os0) (by rw [← hf3] <;> rfl) <|
    stm_for (wk_rng1 E.B.range (arg_cons (ev_call (ok_draw E) hr (arg_cons (ev_var 0 rfl) (arg_cons (ev_var 2 rfl) arg_nil)) ⟨A, 1, f3, 5, rfl, rfl, rfl, by decide, by decide, rfl, rfl⟩) arg_nil) (by omega)) (tgt_name 4 nd)
      (fun i δ os2 => ∃ (fr : Feed) (st : List (Int × Int)) (u v w : Option D), os2 = .lst (st.map pD) :: fr.o :: os0 ∧ StOk s st ∧ st.length = i + 1 ∧ δ = [some (.adr A), some (bookD s r e), some (.int 5), some (.adr L), u, some (.int s.a), some (.int s.b), some (.int s.n), some (.int s.c), some (.int s.m), some .non, v, w])
      ⟨_, _, _, _, _, rfl, st0, rfl, rfl⟩ ?_ (fun δ os2 h => ?_) pn rfl
    · rintro i d δ os2 hd ⟨fr, st, u, v, w, rfl, sk, sl, rfl⟩
      have hi := (rngD_get hd).1
      obtain ⟨q, hq⟩ : ∃ q, st.getLast? = some q := by
        cases hb : st.getLast? with
        | none => exact absurd (List.getLast?_eq_none_iff.mp hb) sk.ne
        | some q => exact ⟨q, rfl⟩
      have hat : atI (st.map pD) (-1) = some (pD q) := atI_lastX (by rw [List.getLast?_map, hq] <;> rfl)
      obtain ⟨t0, t1⟩ := draw_bd (f := fr) (lim := s.b - s.a + 1) (by omega)
      refine ⟨_, rfl,
      stm_env [some (.adr A), some (bookD s r e), some (.int 5), some (.adr L), some d, some (.int s.a), some (.int s.b), some (.int s.n), some (.int s.c), some (.int s.m), some .non, v, w] rfl <|
      stm_asg (ev_ixM 0 (ev_var 3 rfl) (ev_neg ev_int) rfl rfl hat) (tgt_tup rfl (tgts_cons (tgt_name 11 nd) (tgts_cons (tgt_name 12 nd) tgts_nil)) (fCons_len (fCons_len fNil_len))) rfl <|
      stm_env [some (.adr A), some (bookD s r e), some (.int 5), some (.adr L), some d, some (.int s.a), some (.int s.b), some (.int s.n), some (.int s.c), some (.int s.m), some .non, some (.int q.1), some (.int q.2)] rfl <|
      stm_if (bl := false) (fun δ' os' => ∃ (fr : Feed) (st : List (Int × Int)) (u v w : Option D), os' = .lst (st.map pD) :: fr.o :: os0 ∧ StOk s st ∧ st.length = i + 1 + 1 ∧ δ' = [some (.adr A), some (bookD s r e), some (.int 5), some (.adr L), u, some (.int s.a), some (.int s.b), some (.int s.n), some (.int s.c), some (.int s.m), some .non, v, w]) (tst_w (tsw_andF (tst_eq (tst_cmp c_notN (ev_var 10 rfl) ev_non) rfl))) (fun h1 => by cases h1) (fun h2 =>
        stm_expr (ev_append 0 (ev_var 3 rfl) (arg_cons (ev_tup (arg_cons (ev_add (ev_add (ev_var 11 rfl) (ev_var 5 rfl)) (ev_call (ok_draw E) hr (arg_cons (ev_var 0 rfl) (arg_cons (ev_add (ev_sub (ev_var 6 rfl) (ev_var 5 rfl)) ev_int) arg_nil)) ⟨A, 1, fr, s.b - s.a + 1, rfl, rfl, rfl, by omega, by omega, rfl, rfl⟩)) (arg_cons (ev_mod (ev_add (ev_var 12 rfl) ev_int) (ev_var 9 rfl) (by omega)) arg_nil))) arg_nil) rfl rfl rfl (by rw [List.length_map]; omega)) <|
        stm_nil ⟨(drawF fr (s.b - s.a + 1)).2, st ++ [(q.1 + s.a + (drawF fr (s.b - s.a + 1)).1, (q.2 + 1) % s.m)], _, _, _, ?_, sk.more (by omega) hq (by omega) rfl m1, by simp [sl], rfl⟩) fun δ' os' h => stm_nil h⟩
      rw [List.map_append] <;> rfl
    · obtain ⟨fr, st, u, v, w, rfl, sk, sl, rfl⟩ := h
      exact stm_frz 3 rfl <| stm_ret (ev_bt b_tupL E.B.tuple boot_tuple (arg_cons (ev_var 3 rfl) arg_nil)) (hΦ st fr sk)
end
end PW
namespace PW
open PySem PySem.Spec PyProof.Rows L2
/-! ### what comes -/
structure Cm where
  m : Int
  n : Int
  t : Nat
  p : Nat
def Cm.l (c : Cm) : List Int := [c.m, c.n, (c.t : Int), (c.p : Int)]
def Cm.a (c : Cm) : Arr := ⟨c.m, c.t, c.p⟩
def ofL (l : List Int) : Arr := ⟨l.getD 0 0, (l.getD 2 0).toNat, (l.getD 3 0).toNat⟩
theorem ofL_l (c : Cm) : ofL c.l = c.a := by
  unfold ofL Cm.l Cm.a
  simp
structure AOk (s : Snd) (r : Roa) (st : List (Int × Int)) (m : Int) (t p : Nat) : Prop where
  t1 : t < st.length
  p1 : (p : Int) < s.n
  lo : (st.getD t (0, 0)).1 + r.p ≤ m
  hi : m ≤ (st.getD t (0, 0)).1 + r.p + r.q
/-- the most that may have come till the turn k, p, lap -/
def capF (c : Int) (k p lap : Nat) (t q : Nat) : Int := if t < k ∨ (t = k ∧ q < p) then c else if t = k ∧ q = p then lap else 0
structure FOk (s : Snd) (r : Roa) (st : List (Int × Int)) (k p lap : Nat) (fs : List Cm) : Prop where
  ok : ∀ c ∈ fs, AOk s r st c.m c.t c.p ∧ 0 ≤ c.n ∧ c.n < 1000
  cp : ∀ t q : Nat, ((fs.countP fun c => decide (c.t = t ∧ c.p = q) : Nat) : Int) ≤ capF s.c k p lap t q
  len : (fs.length : Int) ≤ s.c * ((s.n * k) + p) + lap
theorem FOk.zero {s : Snd} {r : Roa} {st : List (Int × Int)} (so : s.Ok) : FOk s r st 0 0 0 [] := ⟨fun c h => (by cases h), fun t q => by
  have := so.c1
  unfold capF
  simp only [List.countP_nil]
  split
  · omega
  · split <;> omega, by simp⟩
theorem FOk.more {s : Snd} {r : Roa} {st : List (Int × Int)} {k p lap : Nat} {fs : List Cm} {m n : Int} (so : s.Ok) (h : FOk s r st k p lap fs) (ha : AOk s r st m k p) (hn : 0 ≤ n ∧ n < 1000) : FOk s r st k p (lap + 1) (fs ++ [⟨m, n, k, p⟩]) := by
  refine ⟨fun c hc => ?_, fun t q => ?_, ?_⟩
  · rcases List.mem_append.mp hc with z | z
    · exact h.ok c z
    · simp at z
      subst z
      exact ⟨ha, hn⟩
  · have h1 := h.cp t q
    rw [List.countP_append, List.countP_singleton]
    unfold capF at h1 ⊢
    by_cases e : t = k ∧ q = p
    · obtain ⟨rfl, rfl⟩ := e
      rw [if_neg (by omega), if_pos (And.intro rfl rfl)] at h1
      have e1 : decide (t = t ∧ q = q) = true := decide_eq_true (And.intro rfl rfl)
      have e2 : ¬ (t < t ∨ t = t ∧ q < q) := by omega
      rw [e1, if_pos rfl, if_neg e2, if_pos (And.intro rfl rfl)]
      omega
    · have e2 : decide (k = t ∧ p = q) = false := decide_eq_false (by omega)
      rw [e2]
      simp only [Bool.false_eq_true, if_false, Nat.add_zero]
      rw [if_neg e] at h1 ⊢
      exact h1
  · have := h.len
    simp
    omega
theorem FOk.skip {s : Snd} {r : Roa} {st : List (Int × Int)} {k p lap : Nat} {fs : List Cm} (h : FOk s r st k p lap fs) : FOk s r st k p (lap + 1) fs := by
  refine ⟨h.ok, fun t q => ?_, ?_⟩
  · have h1 := h.cp t q
    unfold capF at h1 ⊢
    split at h1
    · rename_i z
      rw [if_pos z]
      exact h1
    · rename_i z
      rw [if_neg z]
      split at h1
      · rename_i z2
        rw [if_pos z2]
        omega
      · rename_i z2
        rw [if_neg z2]
        exact h1
  · have := h.len
    omega
theorem FOk.part {s : Snd} {r : Roa} {st : List (Int × Int)} {k p lap : Nat} {fs : List Cm} (h : FOk s r st k p lap fs) (hl : (lap : Int) = s.c) : FOk s r st k (p + 1) 0 fs := by
  refine ⟨h.ok, fun t q => ?_, ?_⟩
  · have h1 := h.cp t q
    unfold capF at h1 ⊢
    by_cases z : t < k ∨ t = k ∧ q < p
    · rw [if_pos z] at h1
      rw [if_pos (by omega)]
      exact h1
    · rw [if_neg z] at h1
      by_cases z2 : t = k ∧ q = p
      · rw [if_pos z2] at h1
        rw [if_pos (by omega)]
        omega
      · rw [if_neg z2] at h1
        rw [if_neg (by omega)]
        split
        · omega
        · exact h1
  · have h1 := h.len
    have e : s.c * (s.n * (k : Int) + ((p + 1 : Nat) : Int)) + ((0 : Nat) : Int) = s.c * (s.n * (k : Int) + (p : Int)) + s.c := by
      rw [show s.n * (k : Int) + ((p + 1 : Nat) : Int) = (s.n * (k : Int) + (p : Int)) + 1 by omega, Int.mul_add, Int.mul_one]
      omega
    rw [e]
    omega
theorem FOk.text {s : Snd} {r : Roa} {st : List (Int × Int)} {k p : Nat} {fs : List Cm} (so : s.Ok) (h : FOk s r st k p 0 fs) (hl : (p : Int) = s.n) : FOk s r st (k + 1) 0 0 fs := by
  refine ⟨h.ok, fun t q => ?_, ?_⟩
  · by_cases z0 : (q : Int) < s.n
    · have h1 := h.cp t q
      unfold capF at h1 ⊢
      by_cases z : t < k ∨ t = k ∧ q < p
      · rw [if_pos z] at h1
        rw [if_pos (by omega)]
        exact h1
      · rw [if_neg z] at h1
        rw [if_neg (by omega)] at h1
        rw [if_neg (by omega)]
        split
        · exact h1
        · exact h1
    · have c0 : (fs.countP fun c => decide (c.t = t ∧ c.p = q)) = 0 := by
        rw [List.countP_eq_zero]
        intro c hc
        have := (h.ok c hc).1.p1
        simp
        intro _
        omega
      rw [c0]
      have := so.c1
      unfold capF
      split
      · omega
      · split <;> omega
  · have h1 := h.len
    have e : s.n * ((k + 1 : Nat) : Int) + ((0 : Nat) : Int) = s.n * (k : Int) + (p : Int) := by
      rw [show ((k + 1 : Nat) : Int) = (k : Int) + 1 by omega, Int.mul_add, Int.mul_one]
      omega
    rw [e]
    exact h1
structure CmsOk (s : Snd) (r : Roa) (st : List (Int × Int)) (cs : List Arr) : Prop where
  ok : ∀ c ∈ cs, AOk s r st c.m c.t c.p
  cp : ∀ t q : Nat, ((cs.countP fun c => decide (c.t = t ∧ c.p = q) : Nat) : Int) ≤ s.c
  so : cs.Pairwise fun a b => a.m ≤ b.m
theorem lsort_perm (xs : List (List Int)) : (lsort xs).Perm xs := List.mergeSort_perm _ _
theorem lsort_sorted {d : Nat} {c B : Int} {xs : List (List Int)} (hx : ∀ x ∈ xs, x.length = d ∧ BdS c B x) : (lsort xs).Pairwise fun a b => cdS c B a ≤ cdS c B b := by
  have h := lsort_of (d := d) (c := c) (B := B) (xs := xs) (ys := xs.mergeSort fun a b => decide (cdS c B a ≤ cdS c B b)) (List.mergeSort_perm _ _) (List.Pairwise.imp (fun {a b} h => of_decide_eq_true h) (List.pairwise_mergeSort (le := fun a b : List Int => decide (cdS c B a ≤ cdS c B b)) (fun a b c h1 h2 => decide_eq_true (Int.le_trans (of_decide_eq_true h1) (of_decide_eq_true h2))) (fun a b => by
    rcases Int.le_total (cdS c B a) (cdS c B b) with z | z <;> simp [z]) xs)) hx
  rw [← h]
  exact List.Pairwise.imp (fun {a b} h => of_decide_eq_true h) (List.pairwise_mergeSort (le := fun a b : List Int => decide (cdS c B a ≤ cdS c B b)) (fun a b c h1 h2 => decide_eq_true (Int.le_trans (of_decide_eq_true h1) (of_decide_eq_true h2))) (fun a b => by
    rcases Int.le_total (cdS c B a) (cdS c B b) with z | z <;> simp [z]) xs)
theorem lsort_lex {d : Nat} {c B : Int} {xs : List (List Int)} (hx : ∀ x ∈ xs, x.length = d ∧ BdS c B x) : (lsort xs).Pairwise fun a b => HT.lexLt b a = false := by
  have h := lsort_sorted hx
  refine List.Pairwise.imp_of_mem (fun {a b} ha hb z => ?_) h
  have h1 := hx a ((lsort_perm xs).mem_iff.mp ha)
  have h2 := hx b ((lsort_perm xs).mem_iff.mp hb)
  rw [← cdS_lex (by rw [h1.1, h2.1]) h2.2 h1.2]
  exact decide_eq_false (by omega)
theorem AOk.bd {s : Snd} {r : Roa} {st : List (Int × Int)} {m : Int} {t p : Nat} (h : AOk s r st m t p) (hb : ∀ q ∈ st, -20 ≤ q.1 ∧ q.1 ≤ 60) (so : s.Ok) (ro : r.Ok) (sl : st.length ≤ 5) : -20 ≤ m ∧ m ≤ 80 ∧ t ≤ 5 ∧ p ≤ 10 := by
  have h1 := h.t1
  have h2 := h.p1
  have h3 := h.lo
  have h4 := h.hi
  have hg : st.getD t (0, 0) ∈ st := by
    rw [List.getD_eq_getElem?_getD, List.getElem?_eq_getElem h1]
    exact List.getElem_mem h1
  have := hb _ hg
  have := so.n2
  have := ro.p1
  have := ro.p2
  have := ro.q1
  have := ro.q2
  omega
theorem StOk.bd {s : Snd} {st : List (Int × Int)} (h : StOk s st) (a1 : 1 ≤ s.a) (b5 : s.b ≤ 5) : ∀ q ∈ st, -20 ≤ q.1 ∧ q.1 ≤ 60 := by
  have gen : ∀ (i : Nat) (q : Int × Int), st[i]? = some q → -20 ≤ q.1 ∧ q.1 ≤ 19 + 5 * (i : Int) := by
    intro i
    induction i with
    | zero =>
      intro q hq
      have := h.fst q hq
      omega
    | succ i ih =>
      intro q hq
      have hl := (List.getElem?_eq_some_iff.mp hq).1
      have h1 := h.step i st[i] q (List.getElem?_eq_getElem (by omega)) hq
      have h2 := ih st[i] (List.getElem?_eq_getElem (by omega))
      omega
  intro q hq
  obtain ⟨i, hi⟩ := List.getElem?_of_mem hq
  have := gen i q hi
  have h5 := h.len
  have := (List.getElem?_eq_some_iff.mp hi).1
  omega
end PW
namespace PW
open PySem PySem.Spec PyProof.Rows L2
theorem tupI_l (c : Cm) : D.tup [.int c.m, .int c.n, .int (c.t : Int), .int (c.p : Int)] = tupI c.l := rfl
theorem cm_mem {fs : List Cm} {x : List Int} (h : x ∈ fs.map Cm.l) : ∃ c ∈ fs, x = c.l := by
  obtain ⟨c, h1, h2⟩ := List.mem_map.mp h
  exact ⟨c, h1, h2.symm⟩
theorem cms_of {s : Snd} {r : Roa} {st : List (Int × Int)} {k : Nat} {fs : List Cm} (so : s.Ok) (ro : r.Ok) (hb : ∀ q ∈ st, -20 ≤ q.1 ∧ q.1 ≤ 60) (sl : st.length ≤ 5) (h : FOk s r st k 0 0 fs) : (∀ x ∈ fs.map Cm.l, x.length = 4 ∧ BdS 30 2000 x) ∧ CmsOk s r st ((lsort (fs.map Cm.l)).map ofL) := by
  have hx : ∀ x ∈ fs.map Cm.l, x.length = 4 ∧ BdS 30 2000 x := fun x hx => by
    obtain ⟨c, hc, rfl⟩ := cm_mem hx
    obtain ⟨h1, h2, h3⟩ := h.ok c hc
    have := h1.bd hb so ro sl
    refine ⟨rfl, fun z hz => ?_⟩
    simp only [Cm.l, List.map_cons, List.map_nil, List.mem_cons, List.not_mem_nil, or_false] at hz
    rcases hz with rfl | rfl | rfl | rfl <;> omega
  refine ⟨hx, fun a ha => ?_, fun t q => ?_, ?_⟩
  · obtain ⟨x, h1, h2⟩ := List.mem_map.mp ha
    obtain ⟨c, hc, rfl⟩ := cm_mem (lsort_mem.mp h1)
    subst h2
    rw [ofL_l]
    exact (h.ok c hc).1
  · have e : ((lsort (fs.map Cm.l)).map ofL).countP (fun c => decide (c.t = t ∧ c.p = q)) = fs.countP fun c => decide (c.t = t ∧ c.p = q) := by
      rw [List.countP_map, (lsort_perm (fs.map Cm.l)).countP_eq, List.countP_map]
      refine List.countP_congr fun c _ => ?_
      simp only [Function.comp, ofL_l]
      exact Iff.rfl
    rw [e]
    refine Int.le_trans (h.cp t q) ?_
    have := so.c1
    unfold capF
    split
    · omega
    · split <;> omega
  · rw [List.pairwise_map]
    refine List.Pairwise.imp_of_mem (fun {a b} ha hb z => ?_) (lsort_lex hx)
    obtain ⟨c, _, rfl⟩ := cm_mem (lsort_mem.mp ha)
    obtain ⟨c', _, rfl⟩ := cm_mem (lsort_mem.mp hb)
    rw [ofL_l, ofL_l]
    unfold Cm.l at z
    rw [HT.lexLt_cons] at z
    by_cases e : c'.m = c.m
    · show c.m ≤ c'.m
      omega
    · rw [if_neg e] at z
      have := of_decide_eq_false z
      show c.m ≤ c'.m
      omega
def vD (s : Snd) (sp : D) (r : Roa) (e : Ear) : D := .tup [s.ds sp, r.d, e.d]
section
variable {P : Program} {w : World} {K : PySem.W.Frag} {mg : Str → Option Value} {base : Heap}
def c_comings : CtrX := fun M ds os Φ => ∃ (A : Addr) (M0 : List Addr) (f : Feed) (os0 : List MO) (s : Snd) (sp : D) (r : Roa) (e : Ear) (st : List (Int × Int)), M = A :: M0 ∧ os = f.o :: os0 ∧ ds = [.adr A, vD s sp r e, .tup (st.map pD), .int 4] ∧ s.Ok ∧ r.Ok ∧ s.n ≤ 3 ∧ s.c ≤ 2 ∧ st.length ≤ 5 ∧ (∀ q ∈ st, -20 ≤ q.1 ∧ q.1 ≤ 60) ∧ ∀ (cs : List Arr) (f' : Feed), CmsOk s r st cs → Φ (.tup (cs.map Arr.d)) (f'.o :: os0)
theorem ok_comings (E : Env1 K mg) : ClX P w K mg base 2 "_law_comings" c_comings := by
  have nd : (["_law_feed_here", "_law_volume_here", "_law_starts_here", "_law_lost", "_law_k", "_law_near", "_law_far", "_law_found", "_law_part", "_law_lap", "_law_moment", "_law_turn"] : List Str).Nodup := by decide +kernel
  refine clX_ok (N := ["_law_feed_here", "_law_volume_here", "_law_starts_here", "_law_lost", "_law_k", "_law_near", "_law_far", "_law_found", "_law_part", "_law_lap", "_law_moment", "_law_turn"]) (ps := ["_law_feed_here", "_law_volume_here", "_law_starts_here", "_law_lost"]) (E.T.at 60) ⟨rfl, rfl, rfl, nd, rfl, by decide +kernel, by decide +kernel⟩ (fun _ _ _ _ _ _ us hl => match us, hl with | [_, _, _, _], _ => rfl) ?_ ?_
  · rintro M ds os Φ ⟨A, M0, f, os0, s, sp, r, e, st, _, _, rfl, _⟩
    rfl
  · rintro fa cdv Ar outer sh H E0 hr M ds os Φ ⟨A, M0, f, os0, s, sp, r, e, st, rfl, rfl, rfl, so, ro, n3, c3, sl, hb, hΦ⟩
    have n1 := so.n1
    have c1 := so.c1
    have q1 := ro.q1
    have q2 := ro.q2
    let δ : Addr → Option D → Option D → Option D → List (Option D) := fun L k p l => [some (.adr A), some (vD s sp r e), some (.tup (st.map pD)), some (.int 4), k, some (.int r.p), some (.int r.q), some (.adr L), p, l, none, none]
    refine
    stm_env [some (.adr A), some (vD s sp r e), some (.tup (st.map pD)), some (.int 4), none, none, none, none, none, none, none, none] rfl <|
    stm_par3M 5 6 7 (argM_cons (ev_ixT (i := 0) (ev_ixT (i := 1) (d := r.d) (ev_var 1 rfl) ev_int rfl) ev_int rfl) (argM_cons (ev_ixT (i := 1) (ev_ixT (i := 1) (d := r.d) (ev_var 1 rfl) ev_int rfl) ev_int rfl) (argM_here fun L => arg_nil))) rfl nd fun L =>
    stm_env [some (.adr A), some (vD s sp r e), some (.tup (st.map pD)), some (.int 4), none, some (.int r.p), some (.int r.q), some (.adr L), none, none, none, none] rfl <|
    stm_for (wk_rng1 E.B.range (arg_cons (ev_bi b_lenT E.B.len boot_len (arg_cons (ev_var 2 rfl) arg_nil)) arg_nil) (by rw [List.length_map]; omega)) (tgt_name 4 nd)
      (fun k δ os2 => ∃ (fr : Feed) (fs : List Cm) (x y z : Option D), os2 = .lst ((fs.map Cm.l).map tupI) :: fr.o :: os0 ∧ FOk s r st k 0 0 fs ∧ δ = [some (.adr A), some (vD s sp r e), some (.tup (st.map pD)), some (.int 4), x, some (.int r.p), some (.int r.q), some (.adr L), y, z, none, none])
      ⟨f, [], _, _, _, rfl, FOk.zero so, rfl⟩ ?_ (fun δ os2 h => ?_) pn rfl
    · rintro k d δ os2 hd ⟨fr, fs, x, y, z, rfl, fo, rfl⟩
      obtain ⟨hk, rfl⟩ := rngD_get hd
      rw [List.length_map, Int.toNat_natCast] at hk
      refine ⟨_, rfl,
      stm_env [some (.adr A), some (vD s sp r e), some (.tup (st.map pD)), some (.int 4), some (.int (k : Nat)), some (.int r.p), some (.int r.q), some (.adr L), y, z, none, none] (by rw [Int.zero_add] <;> rfl) <|
      stm_for (wk_rng1 E.B.range (arg_cons (ev_ixT (i := 2) (ev_ixT (i := 0) (d := s.ds sp) (ev_var 1 rfl) ev_int rfl) ev_int rfl) arg_nil) (by omega)) (tgt_name 8 nd)
        (fun p δ os2 => ∃ (fr : Feed) (fs : List Cm) (y z : Option D), os2 = .lst ((fs.map Cm.l).map tupI) :: fr.o :: os0 ∧ FOk s r st k p 0 fs ∧ δ = [some (.adr A), some (vD s sp r e), some (.tup (st.map pD)), some (.int 4), some (.int (k : Nat)), some (.int r.p), some (.int r.q), some (.adr L), y, z, none, none])
        ⟨fr, fs, _, _, rfl, fo, rfl⟩ ?_ (fun δ os2 h => ?_) pn rfl⟩
      · rintro p d δ os2 hd ⟨fr, fs, y, z, rfl, fo, rfl⟩
        obtain ⟨hp, rfl⟩ := rngD_get hd
        refine ⟨_, rfl,
        stm_env [some (.adr A), some (vD s sp r e), some (.tup (st.map pD)), some (.int 4), some (.int (k : Nat)), some (.int r.p), some (.int r.q), some (.adr L), some (.int (p : Nat)), z, none, none] (by rw [Int.zero_add] <;> rfl) <|
        stm_for (wk_rng1 E.B.range (arg_cons (ev_ixT (i := 3) (ev_ixT (i := 0) (d := s.ds sp) (ev_var 1 rfl) ev_int rfl) ev_int rfl) arg_nil) (by omega)) (tgt_name 9 nd)
          (fun l δ os2 => ∃ (fr : Feed) (fs : List Cm) (z : Option D), os2 = .lst ((fs.map Cm.l).map tupI) :: fr.o :: os0 ∧ FOk s r st k p l fs ∧ δ = [some (.adr A), some (vD s sp r e), some (.tup (st.map pD)), some (.int 4), some (.int (k : Nat)), some (.int r.p), some (.int r.q), some (.adr L), some (.int (p : Nat)), z, none, none])
          ⟨fr, fs, _, rfl, fo, rfl⟩ ?_ (fun δ os2 h => ?_) pn rfl⟩
        · rintro l d δ os2 hd ⟨fr, fs, z, rfl, fo, rfl⟩
          obtain ⟨hl, rfl⟩ := rngD_get hd
          have hst : atI (st.map pD) (k : Nat) = some (pD (st.getD k (0, 0))) := pD_at hk
          obtain ⟨t0, t1⟩ := draw_bd (f := (drawF fr 4).2) (lim := r.q + 1) (by omega)
          obtain ⟨u0, u1⟩ := draw_bd (f := (drawF (drawF fr 4).2 (r.q + 1)).2) (lim := 1000) (by decide)
          refine ⟨_, rfl,
          stm_env [some (.adr A), some (vD s sp r e), some (.tup (st.map pD)), some (.int 4), some (.int (k : Nat)), some (.int r.p), some (.int r.q), some (.adr L), some (.int (p : Nat)), some (.int (0 + (l : Int))), none, none] rfl <|
          stm_if (fun δ' os' => ∃ (fr : Feed) (fs : List Cm) (z : Option D), os' = .lst ((fs.map Cm.l).map tupI) :: fr.o :: os0 ∧ FOk s r st k p (l + 1) fs ∧ δ' = [some (.adr A), some (vD s sp r e), some (.tup (st.map pD)), some (.int 4), some (.int (k : Nat)), some (.int r.p), some (.int r.q), some (.adr L), some (.int (p : Nat)), z, none, none]) (tst_cmp c_gt (ev_call (ok_draw E) hr (arg_cons (ev_var 0 rfl) (arg_cons (ev_var 3 rfl) arg_nil)) ⟨A, 1, fr, 4, rfl, rfl, rfl, by decide, by decide, rfl, rfl⟩) ev_int) (fun h1 =>
            stm_expr (ev_append 0 (ev_var 7 rfl) (arg_cons (ev_tup (arg_cons (ev_add (ev_add (ev_ixT (ev_ixT (ev_var 2 rfl) (ev_var 4 rfl) hst) ev_int rfl) (ev_var 5 rfl)) (ev_call (ok_draw E) hr (arg_cons (ev_var 0 rfl) (arg_cons (ev_add (ev_var 6 rfl) ev_int) arg_nil)) ⟨A, 1, (drawF fr 4).2, r.q + 1, rfl, rfl, rfl, by omega, by omega, rfl, rfl⟩)) (arg_cons (ev_call (ok_draw E) hr (arg_cons (ev_var 0 rfl) (arg_cons ev_int arg_nil)) ⟨A, 1, (drawF (drawF fr 4).2 (r.q + 1)).2, 1000, rfl, rfl, rfl, by decide, by decide, rfl, rfl⟩) (arg_cons (ev_var 4 rfl) (arg_cons (ev_var 8 rfl) arg_nil))))) arg_nil) rfl rfl rfl ?_) <|
            stm_nil ⟨(drawF (drawF (drawF fr 4).2 (r.q + 1)).2 1000).2, fs ++ [⟨(st.getD k (0, 0)).1 + r.p + (drawF (drawF fr 4).2 (r.q + 1)).1, (drawF (drawF (drawF fr 4).2 (r.q + 1)).2 1000).1, k, p⟩], _, ?_, fo.more so ⟨hk, by omega, by omega, by omega⟩ ⟨u0, u1⟩, rfl⟩) (fun h2 =>
            stm_nil ⟨(drawF fr 4).2, fs, _, rfl, fo.skip, rfl⟩) fun δ' os' h => stm_nil h⟩
          · have := fo.len
            rw [List.length_map, List.length_map]
            have e1 : s.c * (s.n * (k : Int) + (p : Int)) ≤ 2 * (3 * 5 + 3) := by
              have e2 : s.n * (k : Int) ≤ 3 * 5 := Int.mul_le_mul n3 (by omega) (by omega) (by omega)
              have e3 : 0 ≤ s.n * (k : Int) := Int.mul_nonneg (by omega) (by omega)
              exact Int.mul_le_mul c3 (by omega) (by omega) (by omega)
            omega
          · rw [List.map_append, List.map_append] <;> rfl
        · obtain ⟨fr, fs, z, rfl, fo, rfl⟩ := h
          unfold rngD at fo
          rw [List.length_map, List.length_range] at fo
          exact stm_nil ⟨fr, fs, _, _, rfl, fo.part (by omega), rfl⟩
      · obtain ⟨fr, fs, y, z, rfl, fo, rfl⟩ := h
        unfold rngD at fo
        rw [List.length_map, List.length_range] at fo
        exact stm_nil ⟨fr, fs, _, _, _, rfl, fo.text so (by omega), rfl⟩
    · obtain ⟨fr, fs, x, y, z, rfl, fo, rfl⟩ := h
      unfold rngD at fo
      rw [List.length_map, List.length_range, List.length_map, Int.toNat_natCast] at fo
      obtain ⟨hx, hc⟩ := cms_of so ro hb sl fo
      have hlen : (fs.length : Int) ≤ 2 * (3 * 5) := by
        have := fo.len
        have e1 : s.c * (s.n * (st.length : Int) + ((0 : Nat) : Int)) ≤ 2 * (3 * 5) := by
          have e2 : s.n * (st.length : Int) ≤ 3 * 5 := Int.mul_le_mul n3 (by omega) (by omega) (by omega)
          have e3 : 0 ≤ s.n * (st.length : Int) := Int.mul_nonneg (by omega) (by omega)
          exact Int.mul_le_mul c3 (by omega) (by omega) (by omega)
        omega
      have hl2 : (lsort (fs.map Cm.l)).length = fs.length := by rw [(lsort_perm _).length_eq, List.length_map]
      refine stm_frz 7 rfl <|
      stm_env [some (.adr A), some (vD s sp r e), some (.tup (st.map pD)), some (.int 4), x, some (.int r.p), some (.int r.q), some (.lst ((fs.map Cm.l).map tupI)), y, z, none, none] rfl <|
      stm_ret (ev_bt b_tupL E.B.tuple boot_tuple (arg_cons (ev_lc0 (own := [("_law_moment", 10), ("_law_turn", 11), ("_law_k", 4), ("_law_part", 8)]) (lsort (fs.map Cm.l)) tupI (fun l => (ofL l).d) (wk_lst (ev_bi (b_sortedL (k := 4) (cc := 30) (B := 2000) (by decide) (by rw [List.length_map]; omega) hx) E.B.sorted boot_sorted (arg_cons (ev_var 7 rfl) arg_nil))) (blkOk_by (by kernel_rfl)) (fun _ _ _ _ _ _ => (tgt_tup rfl (tgts_cons (tgt_name 10 nd) (tgts_cons (tgt_name 11 nd) (tgts_cons (tgt_name 4 nd) (tgts_cons (tgt_name 8 nd) tgts_nil)))) (fCons_len (fCons_len (fCons_len (fCons_len fNil_len)))))) (fun l hl => ?_) (by rw [hl2]; omega) rfl nd) arg_nil)) ?_
      · obtain ⟨c, _, rfl⟩ := cm_mem (lsort_mem.mp hl)
        refine ⟨_, rfl, fun L acc s2 H C cl fp => ?_⟩
        rw [ofL_l]
        exact ev_tup (arg_cons (ev_var 10 rfl) (arg_cons (ev_var 4 rfl) (arg_cons (ev_var 8 rfl) arg_nil)))
      · have := hΦ _ fr hc
        rw [List.map_map] at this
        exact this
end
end PW
namespace PW
open PySem PySem.Spec PyProof.Rows L2
/-! ### the events -/
inductive Evs (st : List (Int × Int)) (cs : List Arr) : Nat → Nat → List Evt → Prop
  | nil : Evs st cs 0 0 []
  | beg {i j : Nat} {vs : List Evt} {q : Int × Int} : Evs st cs i j vs → st[i]? = some q → Evs st cs (i + 1) j (vs ++ [.beg q.1 q.2])
  | hea {i j : Nat} {vs : List Evt} {a : Arr} : Evs st cs i j vs → cs[j]? = some a → a.t < i → Evs st cs i (j + 1) (vs ++ [.hea a])
theorem Evs.len {st : List (Int × Int)} {cs : List Arr} {i j : Nat} {vs : List Evt} (h : Evs st cs i j vs) : vs.length = i + j ∧ i ≤ st.length ∧ j ≤ cs.length := by
  induction h with
  | nil => simp
  | beg h e ih =>
    have := (List.getElem?_eq_some_iff.mp e).1
    simp
    omega
  | hea h e _ ih =>
    have := (List.getElem?_eq_some_iff.mp e).1
    simp
    omega
/-- till an event -/
theorem Evs.at {st : List (Int × Int)} {cs : List Arr} {i j : Nat} {vs : List Evt} (h : Evs st cs i j vs) {n : Nat} {v : Evt} (hv : vs[n]? = some v) : ∃ i' j', Evs st cs i' j' (vs.take n) ∧ ((∃ q, st[i']? = some q ∧ v = .beg q.1 q.2) ∨ ∃ a, cs[j']? = some a ∧ a.t < i' ∧ v = .hea a) := by
  induction h with
  | nil => simp at hv
  | @beg i j vs q h e ih =>
    by_cases hl : n < vs.length
    · rw [List.getElem?_append_left hl] at hv
      obtain ⟨i', j', h1, h2⟩ := ih hv
      exact ⟨i', j', by rw [List.take_append_of_le_length (by omega)]; exact h1, h2⟩
    · have e2 : n = vs.length := by
        have := (List.getElem?_eq_some_iff.mp hv).1
        simp at this
        omega
      subst e2
      rw [List.getElem?_append_right (Nat.le_refl _)] at hv
      simp at hv
      exact ⟨i, j, by rw [List.take_left']; exact h; rfl, .inl ⟨q, e, hv.symm⟩⟩
  | @hea i j vs a h e e1 ih =>
    by_cases hl : n < vs.length
    · rw [List.getElem?_append_left hl] at hv
      obtain ⟨i', j', h1, h2⟩ := ih hv
      exact ⟨i', j', by rw [List.take_append_of_le_length (by omega)]; exact h1, h2⟩
    · have e2 : n = vs.length := by
        have := (List.getElem?_eq_some_iff.mp hv).1
        simp at this
        omega
      subst e2
      rw [List.getElem?_append_right (Nat.le_refl _)] at hv
      simp at hv
      exact ⟨i, j, by rw [List.take_left']; exact h; rfl, .inr ⟨a, e, e1, hv.symm⟩⟩
def bq (q : Int × Int) : Evt := .beg q.1 q.2
theorem Evs.rest {st : List (Int × Int)} {cs : List Arr} {j : Nat} : ∀ {n i : Nat} {vs : List Evt}, Evs st cs i j vs → st.length = i + n → Evs st cs st.length j (vs ++ (st.drop i).map bq)
  | 0, i, vs, h, e => by
    rw [List.drop_of_length_le (by omega)]
    have : i = st.length := by omega
    subst this
    simpa using h
  | n + 1, i, vs, h, e => by
    have hl : i < st.length := by omega
    have h2 := Evs.rest (n := n) (Evs.beg h (List.getElem?_eq_getElem hl)) (by omega)
    rw [List.drop_eq_getElem_cons hl, List.map_cons]
    rw [List.append_assoc] at h2
    exact h2
section
variable {P : Program} {w : World} {K : PySem.W.Frag} {mg : Str → Option Value} {base : Heap}
def c_events : CtrX := fun M ds os Φ => ∃ (A : Addr) (M1 M0 : List Addr) (f : Feed) (os1 os0 : List MO) (st : List (Int × Int)) (cs : List Arr), M = M1 ++ A :: M0 ∧ os = os1 ++ f.o :: os0 ∧ M1.length = os1.length ∧ ds = [.adr A, .tup (st.map pD), .tup (cs.map Arr.d)] ∧ st.length ≤ 5 ∧ cs.length ≤ 40 ∧ (∀ a ∈ cs, a.t < st.length) ∧ ∀ (vs : List Evt) (f' : Feed), Evs st cs st.length cs.length vs → Φ (.lst (vs.map Evt.d)) (os1 ++ f'.o :: os0)
theorem at_mid {α : Type} (l : List α) (a : α) (r : List α) (n : Nat) (h : n = l.length) : (l ++ a :: r)[n]? = some a := by
  subst h
  simp
theorem set_mid {α : Type} (l : List α) (a b : α) (r : List α) (n : Nat) (h : n = l.length) : (l ++ a :: r).set n b = l ++ b :: r := by
  subst h
  simp
theorem ok_events (E : Env1 K mg) : ClX P w K mg base 3 "_law_events" c_events := by
  have nd : (["_law_feed_here", "_law_starts_here", "_law_comings_here", "_law_found", "_law_begun", "_law_moment", "_law_k", "_law_part", "_law_more", "_law_one"] : List Str).Nodup := by decide +kernel
  refine clX_ok (N := ["_law_feed_here", "_law_starts_here", "_law_comings_here", "_law_found", "_law_begun", "_law_moment", "_law_k", "_law_part", "_law_more", "_law_one"]) (ps := ["_law_feed_here", "_law_starts_here", "_law_comings_here"]) (E.T.at 61) ⟨rfl, rfl, rfl, nd, rfl, by decide +kernel, by decide +kernel⟩ (fun _ _ _ _ _ _ us hl => match us, hl with | [_, _, _], _ => rfl) ?_ ?_
  · rintro M ds os Φ ⟨A, M1, M0, f, os1, os0, st, cs, _, _, _, rfl, _⟩
    rfl
  · rintro fa cdv Ar outer sh H E0 hr M ds os Φ ⟨A, M1, M0, f, os1, os0, st, cs, rfl, rfl, hm, rfl, sl, cl, ht, hΦ⟩
    refine
    stm_env [some (.adr A), some (.tup (st.map pD)), some (.tup (cs.map Arr.d)), none, none, none, none, none, none, none] rfl <|
    stm_par2M 3 4 (argM_here fun L => (arg_cons ev_int arg_nil)) rfl nd fun L =>
    stm_env [some (.adr A), some (.tup (st.map pD)), some (.tup (cs.map Arr.d)), some (.adr L), some (.int ((0 : Nat) : Int)), none, none, none, none, none] rfl <|
    stm_for (wk_tup (ev_var 2 rfl)) (tgt_tup rfl (tgts_cons (tgt_name 5 nd) (tgts_cons (tgt_name 6 nd) (tgts_cons (tgt_name 7 nd) tgts_nil))) (fCons_len (fCons_len (fCons_len fNil_len))))
      (fun j δ os2 => ∃ (fr : Feed) (i : Nat) (vs : List Evt) (x y z u : Option D), os2 = .lst (vs.map Evt.d) :: (os1 ++ fr.o :: os0) ∧ Evs st cs i j vs ∧ δ = [some (.adr A), some (.tup (st.map pD)), some (.tup (cs.map Arr.d)), some (.adr L), some (.int (i : Nat)), x, y, z, u, none])
      ⟨f, 0, [], _, _, _, _, rfl, .nil, rfl⟩ ?_ (fun δ os2 h => ?_) pn rfl
    · rintro j d δ os2 hd ⟨fr, i, vs, x, y, z, u, rfl, ev, rfl⟩
      rw [List.getElem?_map] at hd
      obtain ⟨a, ha, rfl⟩ := Option.map_eq_some_iff.mp hd
      have hat := ht a (List.mem_of_getElem? ha)
      obtain ⟨g0, g1⟩ := draw_bd (f := fr) (lim := 4) (by decide)
      obtain ⟨mo, hmo⟩ := any_more g0 g1
      refine ⟨_, rfl,
      stm_env [some (.adr A), some (.tup (st.map pD)), some (.tup (cs.map Arr.d)), some (.adr L), some (.int (i : Nat)), some (.int a.m), some (.int (a.t : Nat)), some (.int (a.p : Nat)), u, none] rfl <|
      stm_set 8 (ev_eq (d := .int mo) (ev_call (ok_any E) hr (arg_cons (ev_var 0 rfl) (arg_cons (ev_lst (arg_cons ev_int (arg_cons ev_int (arg_cons ev_int (arg_cons ev_int arg_nil))))) arg_nil)) ⟨A, M1.length + 1, fr, _, by simp, by rw [hm]; simp, rfl, by simp, by simp, rfl, rfl⟩) hmo) nd <|
      stm_env [some (.adr A), some (.tup (st.map pD)), some (.tup (cs.map Arr.d)), some (.adr L), some (.int (i : Nat)), some (.int a.m), some (.int (a.t : Nat)), some (.int (a.p : Nat)), some (.int mo), none] rfl <|
      stm_os (.lst (vs.map Evt.d) :: (os1 ++ (drawF fr 4).2.o :: os0)) (by
        rw [hm]
        simp only [List.set_cons_succ]
        rw [set_mid _ _ _ _ _ rfl] <;> rfl) <|
      stm_while (fun m δ' os' => ∃ (i : Nat) (vs : List Evt) (mo : Int), m = st.length - i ∧ os' = .lst (vs.map Evt.d) :: (os1 ++ (drawF fr 4).2.o :: os0) ∧ Evs st cs i j vs ∧ δ' = [some (.adr A), some (.tup (st.map pD)), some (.tup (cs.map Arr.d)), some (.adr L), some (.int (i : Nat)), some (.int a.m), some (.int (a.t : Nat)), some (.int (a.p : Nat)), some (.int mo), none])
        (st.length - i) ⟨i, vs, mo, rfl, rfl, ev, rfl⟩ ?_ pn⟩
      rintro m δ' os' ⟨i, vs, mo, rfl, rfl, ev, rfl⟩
      obtain ⟨l1, l2, l3⟩ := ev.len
      refine ⟨_, _, (tst_w (tsw_and (tst_cmp c_lt (ev_var 4 rfl) (ev_bi b_lenT E.B.len boot_len (arg_cons (ev_var 1 rfl) arg_nil))) fun h2 => (tsw_and1 (tst_w (tsw_or (tst_cmp c_le (ev_var 4 rfl) (ev_var 6 rfl)) fun h1 => (tsw_or1 (tst_cmp c_gt (ev_var 8 rfl) ev_int))))))), fun h => ?_, fun h => ?_⟩
      · have hl : i < st.length := by
          rw [Bool.and_eq_true, decide_eq_true_eq, List.length_map] at h
          omega
        have hst : atI (st.map pD) (i : Nat) = some (pD st[i]) := by
          refine atI_nat ?_
          rw [List.getElem?_map, List.getElem?_eq_getElem hl] <;> rfl
        refine
        stm_expr (ev_append 0 (ev_var 3 rfl) (arg_cons (ev_eq (d := (bq st[i]).d) (ev_catT (ds := [.str "begin"]) (es := [.int st[i].1, .int st[i].2]) (ev_tup (arg_cons ev_str arg_nil)) (ev_ixT (ev_var 1 rfl) (ev_var 4 rfl) hst)) rfl) arg_nil) rfl rfl rfl (by rw [List.length_map]; omega)) <|
        stm_set 8 (d := .int (if (a.t : Int) < (i : Int) then mo - 1 else mo)) (ev_if (tst_cmp c_gt (ev_var 4 rfl) (ev_var 6 rfl)) (fun h3 => ev_eq (ev_sub (ev_var 8 rfl) ev_int) (by rw [if_pos (of_decide_eq_true h3)])) fun h4 => ev_eq (ev_var 8 rfl) (by rw [if_neg (of_decide_eq_false h4)])) nd <|
        stm_set 4 (ev_add (ev_var 4 rfl) ev_int) nd <|
        stm_nil ⟨st.length - (i + 1), by omega, i + 1, vs ++ [bq st[i]], _, rfl, ?_, .beg ev (List.getElem?_eq_getElem hl), rfl⟩
        rw [List.map_append] <;> rfl
      · have hle : a.t < i := by
          by_cases z : i < st.length
          · have z2 : decide ((i : Int) < ((st.map pD).length : Int)) = true := by
              rw [List.length_map]
              exact decide_eq_true (by omega)
            rw [z2, Bool.true_and, Bool.or_eq_false_iff, decide_eq_false_iff_not] at h
            omega
          · omega
        refine
        stm_expr (ev_append 0 (ev_var 3 rfl) (arg_cons (ev_tup (arg_cons ev_str (arg_cons (ev_var 5 rfl) (arg_cons (ev_var 6 rfl) (arg_cons (ev_var 7 rfl) arg_nil))))) arg_nil) rfl rfl rfl (by rw [List.length_map]; omega)) <|
        stm_nil ⟨(drawF fr 4).2, i, vs ++ [.hea a], _, _, _, _, ?_, .hea ev ha hle, rfl⟩
        rw [List.map_append] <;> rfl
    · obtain ⟨fr, i, vs, x, y, z, u, rfl, ev, rfl⟩ := h
      rw [List.length_map] at ev
      obtain ⟨l1, l2, l3⟩ := ev.len
      have hfin := ev.rest (n := st.length - i) (by omega)
      have e2 : cutD (st.map pD) (some (i : Int)) none = (st.drop i).map pD := by rw [cutD_map, cutD_from]
      refine stm_ret (d := .lst (vs.map Evt.d ++ (st.drop i).map fun q => (bq q).d)) (ev_catM 0 (ev_var 3 rfl) (ev_lc0 (own := [("_law_one", 9)]) (st.drop i) pD (fun q => (bq q).d) (wk_tup (ev_eq (ev_cutT (ev_var 1 rfl) (prt_yes (ev_var 4 rfl)) prt_no) (by rw [e2]))) (blkOk_by (by kernel_rfl)) (fun _ _ _ _ _ _ => (tgt_name 9 nd)) (fun q hq => ⟨_, rfl, fun L acc s2 H C cl fp => ev_eq (ev_catT (ds := [.str "begin"]) (es := [.int q.1, .int q.2]) (ev_tup (arg_cons ev_str arg_nil)) (ev_var 9 rfl)) rfl⟩) (by rw [List.length_drop]; omega) rfl nd) rfl rfl (by rw [List.length_map, List.length_map, List.length_drop]; omega)) ?_
      have := hΦ _ fr hfin
      rw [List.map_append, List.map_map] at this
      exact this
end
end PW
namespace PW
open PySem PySem.Spec PyProof.Rows L2
section
variable {P : Program} {w : World} {K : PySem.W.Frag} {mg : Str → Option Value} {base : Heap}
def g_are_starts : List D → D → Prop := fun ds d => ∃ (s : Snd) (ms : List Int), ds = [.lst (ms.map D.int), s.d] ∧ ms.length ≤ 1000 ∧ (∀ i x y, ms[i]? = some x → ms[i + 1]? = some y → s.a ≤ y - x ∧ y - x ≤ s.b) ∧ d = .bl true
theorem ok_are_starts (E : Env1 K mg) : Cl P w K mg base 1 "_law_are_starts" (pureC g_are_starts) := by
  have nd : (["_law_moments", "_law_front", "_law_k"] : List Str).Nodup := by decide +kernel
  refine cl_ok (N := ["_law_moments", "_law_front", "_law_k"]) (ps := ["_law_moments", "_law_front"]) (E.T.at 62) ⟨rfl, rfl, rfl, nd, rfl, by decide +kernel, by decide +kernel⟩ (fun _ _ _ _ _ _ us hl => match us, hl with | [_, _], _ => rfl) ?_ ?_
  · rintro M ds os d os1 ⟨_, s, ms, rfl, _⟩
    rfl
  · rintro f cdv A outer sh H E0 hr M ds os d os1 ⟨rfl, s, ms, rfl, hl, hm, rfl⟩
    refine
    stm_for (wk_rng2 E.B.range (arg_cons ev_int (arg_cons (ev_bi b_lenL E.B.len boot_len (arg_cons (ev_var 0 rfl) arg_nil)) arg_nil)) (by rw [List.length_map]; omega)) (tgt_name 2 nd)
      (fun i δ os2 => os2 = os1 ∧ ∃ x, δ = [some (.lst (ms.map D.int)), some s.d, x]) ⟨rfl, _, rfl⟩ ?_ (fun δ os2 h => ?_) pn rfl
    · rintro i d δ os2 hd ⟨rfl, x, rfl⟩
      obtain ⟨hi, rfl⟩ := rngD_get hd
      rw [List.length_map] at hi
      have h1 : i + 1 < ms.length := by omega
      have a1 : atI (ms.map D.int) (1 + (i : Int)) = some (.int ms[i + 1]) := by
        rw [show (1 + (i : Int)) = ((i + 1 : Nat) : Int) by omega]
        refine atI_nat ?_
        rw [List.getElem?_map, List.getElem?_eq_getElem h1] <;> rfl
      have a2 : atI (ms.map D.int) (1 + (i : Int) - 1) = some (.int ms[i]) := by
        rw [show (1 + (i : Int) - 1) = ((i : Nat) : Int) by omega]
        refine atI_nat ?_
        rw [List.getElem?_map, List.getElem?_eq_getElem (by omega)] <;> rfl
      obtain ⟨g1, g2⟩ := hm i ms[i] ms[i + 1] (List.getElem?_eq_getElem (by omega)) (List.getElem?_eq_getElem h1)
      exact ⟨_, rfl, stm_ifF (tst_eq (tst_not (tst_chain c_le c_le (ev_ixT (i := 0) (ev_var 1 rfl) ev_int rfl) (ev_sub (ev_ixL (ev_var 0 rfl) (ev_var 2 rfl) a1) (ev_ixL (ev_var 0 rfl) (ev_sub (ev_var 2 rfl) ev_int) a2)) (ev_ixT (i := 1) (ev_var 1 rfl) ev_int rfl) fun _ => rfl)) (by rw [decide_eq_true g1, decide_eq_true g2] <;> rfl)) <| stm_nil ⟨rfl, _, rfl⟩⟩
    · obtain ⟨rfl, x, rfl⟩ := h
      exact stm_ret ev_bl ⟨rfl, rfl⟩
def g_do_come : List D → D → Prop := fun ds d => ∃ (s : Snd) (r : Roa) (e : Ear) (ms : List Int) (t0 : Int) (hs : List Hrd), ds = [.lst (ms.map D.int), .int t0, bookD s r e, hrdD hs] ∧ (∀ h ∈ hs, ∃ x, 0 ≤ h.t - t0 ∧ ms[(h.t - t0).toNat]? = some x ∧ r.p ≤ h.m - x ∧ h.m - x ≤ r.p + r.q) ∧ d = .bl true
theorem ok_do_come (E : Env1 K mg) : Cl P w K mg base 1 "_law_do_come" (pureC g_do_come) := by
  have nd : (["_law_moments", "_law_first", "_law_volume_here", "_law_some", "_law_near", "_law_far", "_law_k", "_law_part", "_law_moment"] : List Str).Nodup := by decide +kernel
  refine cl_ok (N := ["_law_moments", "_law_first", "_law_volume_here", "_law_some", "_law_near", "_law_far", "_law_k", "_law_part", "_law_moment"]) (ps := ["_law_moments", "_law_first", "_law_volume_here", "_law_some"]) (E.T.at 63) ⟨rfl, rfl, rfl, nd, rfl, by decide +kernel, by decide +kernel⟩ (fun _ _ _ _ _ _ us hl => match us, hl with | [_, _, _, _], _ => rfl) ?_ ?_
  · rintro M ds os d os1 ⟨_, s, r, e, ms, t0, hs, rfl, _⟩
    rfl
  · rintro f cdv A outer sh H E0 hr M ds os d os1 ⟨rfl, s, r, e, ms, t0, hs, rfl, hm, rfl⟩
    refine
    stm_asg (ev_ixT (i := 1) (d := r.d) (ev_var 2 rfl) ev_int rfl) (tgt_tup rfl (tgts_cons (tgt_name 4 nd) (tgts_cons (tgt_name 5 nd) tgts_nil)) (fCons_len (fCons_len fNil_len))) rfl <|
    stm_env [some (.lst (ms.map D.int)), some (.int t0), some (bookD s r e), some (hrdD hs), some (.int r.p), some (.int r.q), none, none, none] rfl <|
    stm_for (wk_tup (ev_var 3 rfl)) (tgt_tup rfl (tgts_cons (tgt_name 6 nd) (tgts_cons (tgt_name 7 nd) (tgts_cons (tgt_name 8 nd) tgts_nil))) (fCons_len (fCons_len (fCons_len fNil_len))))
      (fun i δ os2 => os2 = os1 ∧ ∃ x y z, δ = [some (.lst (ms.map D.int)), some (.int t0), some (bookD s r e), some (hrdD hs), some (.int r.p), some (.int r.q), x, y, z]) ⟨rfl, _, _, _, rfl⟩ ?_ (fun δ os2 h => ?_) pn rfl
    · rintro i d δ os2 hd ⟨rfl, x, y, z, rfl⟩
      rw [List.getElem?_map] at hd
      obtain ⟨h, hh, rfl⟩ := Option.map_eq_some_iff.mp hd
      obtain ⟨x', g0, g1, g2, g3⟩ := hm h (List.mem_of_getElem? hh)
      have a1 : atI (ms.map D.int) (h.t - t0) = some (.int x') := by
        rw [show h.t - t0 = (((h.t - t0).toNat : Nat) : Int) by omega]
        refine atI_nat ?_
        rw [List.getElem?_map, g1] <;> rfl
      exact ⟨_, rfl, stm_env [some (.lst (ms.map D.int)), some (.int t0), some (bookD s r e), some (hrdD hs), some (.int r.p), some (.int r.q), some (.int h.t), some (.int h.p), some (.int h.m)] rfl <| stm_ifF (tst_eq (tst_not (tst_chain c_le c_le (ev_var 4 rfl) (ev_sub (ev_var 8 rfl) (ev_ixL (ev_var 0 rfl) (ev_sub (ev_var 6 rfl) (ev_var 1 rfl)) a1)) (ev_add (ev_var 4 rfl) (ev_var 5 rfl)) fun _ => rfl)) (by rw [decide_eq_true g2, decide_eq_true g3] <;> rfl)) <| stm_nil ⟨rfl, _, _, _, rfl⟩⟩
    · obtain ⟨rfl, x, y, z, rfl⟩ := h
      exact stm_ret ev_bl ⟨rfl, rfl⟩
end
end PW
namespace PW
open PySem PySem.Spec PyProof.Rows L2
section
variable {X : Cx} {M : List Addr} {os os1 os2 : List MO} {δ : List (Option D)} {a b c e : Expr} {pos p p2 q2 : Pos} {d : D}
theorem cr_setTI (hc : X.calm = true) : CallR X (.type "set") (fun vs H Q => ∃ (l : Addr) (ns : List Int), vs = [V.ref l] ∧ SqT X.K H l (ns.map V.int) ∧ ns.length ≤ 1000 ∧ ∀ (p c : Nat), H p = none → c ≤ ns.length → Q (.ref p) (upd H p (SetO X.w p (fun j => decide (j ∈ ns)) c))) := by
  intro pins s σ H vs us Q I r h
  obtain ⟨l, ns, rfl, hq, hl, q⟩ := h
  rw [Vals.ref1 r]
  obtain ⟨its, rv, pt, hz⟩ := I.tuple hq
  have hi : IntsAre its.toArray.toList ns := ints_of_vals rv
  refine call_set_tupI ns (I.ok.hd hc) (show s.heap.IsTuple l its.toArray from pt) hi (by unfold scanBound; omega) fun h' tk c R1 hcn k => ?_
  have hn := I.hok.fresh (Nat.le_refl s.heap.objs.size)
  exact ⟨.ref _, upd H s.heap.objs.size (SetO X.w s.heap.objs.size (fun j => decide (j ∈ ns)) c), I.laid (t' := tk) k (Nat.le_refl _) (setO_new R1), rfl, q _ c hn hcn⟩
theorem asc_unique {xs ys : List Int} (h1 : xs.Pairwise (· < ·)) (h2 : ys.Pairwise (· < ·)) (h : ∀ k, k ∈ xs ↔ k ∈ ys) : xs = ys := by
  have n1 : xs.Nodup := h1.imp fun h => Int.ne_of_lt h
  have n2 : ys.Nodup := h2.imp fun h => Int.ne_of_lt h
  exact perm_unique (le := (· < ·)) ((List.perm_ext_iff_of_nodup n1 n2).mpr h) h1 h2 fun a _ b _ x y => by omega
/-- sorted(set(t)), t ascending ints -/
theorem ev_sortedSI {ns : List Int} (hc : X.calm = true) (hm : X.mg "sorted" = none) (hm2 : X.mg "set" = none) (ha : Arg X M os δ [e] [.tup (ns.map D.int)] os1) (h64 : ns.length < 64) (hp : ns.Pairwise (· < ·)) (hg : Gl X "sorted" := by rfl) (hg2 : Gl X "set" := by rfl)
    (he2 : starEach [e] X.env = (false, eval e X.env) :: starEach [] X.env := by rfl) (hpl2 : (backTo q2 (starEach [] X.env)).any (·.1) = false := by rfl)
    (he : starEach [.Call (.Name "set" p2) [e] [] q2] X.env = (false, eval (.Call (.Name "set" p2) [e] [] q2) X.env) :: starEach [] X.env := by rfl) (hpl : (backTo pos (starEach [] X.env)).any (·.1) = false := by rfl) :
    Ev X M os δ (.Call (.Name "sorted" p) [.Call (.Name "set" p2) [e] [] q2] [] pos) (.lst (ns.map D.int)) os1 :=
  pe_imp (pe_callB (cr_sortedSet hc) hg hm boot_sorted (pa_cons (pe_callTy (cr_setTI hc) hg2 hm2 boot_set ha (by decide) (by decide) he2 hpl2) pa_nil he) (by decide) (by decide) he hpl) fun σ H Q ⟨s, en, q⟩ => ⟨s, en, fun vs H1 k1 s1 r1 => by
    obtain ⟨v, ev, rv⟩ := r1.one
    subst ev
    obtain ⟨l, rfl, hl⟩ := rv.intsT
    refine ⟨l, ns, rfl, .inl (.of hl), by omega, fun p c hpn hcn => ⟨p, _, c, rfl, upd_same, by omega, fun us p' pw hk hlen hp' => ?_⟩⟩
    have e1 : us = ns := asc_unique pw hp fun k => by rw [hk k, decide_eq_true_eq]
    subst e1
    have ex1 := Ext.new (o := SetO X.w p (fun j => decide (j ∈ us)) c) hpn
    have ex2 := Ext.new (o := HO.lst (us.map V.int)) hp'
    have sp := s1.ext ex1
    refine q _ _ ((k1.trans ex1.keep).trans ex2.keep) (sp.ext ex2) (new_lst sp hp' ?_)
    have : ∀ l : List Int, RA M (upd H1 p (SetO X.w p (fun j => decide (j ∈ us)) c)) (l.map V.int) (l.map D.int) := by
      intro l
      induction l with
      | nil => exact .nil
      | cons x l ih => exact .cons (.int _) ih
    exact this us⟩
/-- is not True -/
theorem c_notTrue {k : Bool} : Cmp X M os .IsNot (.bl k) (.bl true) (!k) := ⟨fun x y H Q => ∃ k, x = .bl k ∧ y = .bl true ∧ Q (.bl (!k)) H, fun pins s σ H x y v u Q I rx ry h => by
  obtain ⟨k, rfl, rfl, q⟩ := h
  cases rx
  cases ry
  show wpAny _ _ ((isSame (Value.bool k) (Value.bool true)) >>= fun z => pure (Value.bool (!z))) _ _ s
  refine wpAny_bind (wpAny_isSame_plain (by cases k <;> rfl) ?_)
  have e1 : ((Value.bool k) == (Value.bool true)) = k := by cases k <;> rfl
  rw [e1]
  exact wpAny_pure (fin_bl I q rfl), fun x y H Q _ r1 r2 q => by
  cases r1
  cases r2
  exact ⟨k, rfl, rfl, q⟩⟩
end
end PW
namespace PW
open PySem PySem.Spec PyProof.Rows L2
section
variable {P : Program} {w : World} {K : PySem.W.Frag} {mg : Str → Option Value} {base : Heap}
def g_same : List D → D → Prop := fun ds d => ∃ d0, ds = [d0, d0] ∧ okD 4 d0 = true ∧ smD d0 = true ∧ wtD d0 ≤ 1048576 ∧ (∃ ds, d0 = .tup ds ∨ d0 = .lst ds) ∧ d = .bl true
theorem ok_same (E : Env1 K mg) : ClG P w K mg base 1 "_law_same" (pureC g_same) := by
  have nd : (["_law_told", "_law_due"] : List Str).Nodup := by decide +kernel
  refine clG_ok (N := ["_law_told", "_law_due"]) (ps := ["_law_told", "_law_due"]) (E.T.at 57) ⟨rfl, rfl, rfl, nd, rfl, by decide +kernel, by decide +kernel⟩ (fun _ _ _ _ _ _ us hl => match us, hl with | [_, _], _ => rfl) ?_ ?_
  · rintro M ds os d os1 ⟨_, d0, rfl, _⟩
    rfl
  · rintro f cdv A outer s H E0 hr hgu M ds os d os1 ⟨rfl, d0, rfl, h1, h2, h3, h4, rfl⟩
    exact stm_ret (ev_eq (ev_cmp c_eqS (ev_bi (b_repr hgu hr h1 h2 h3 h4) E.B.repr boot_repr (arg_cons (ev_var 0 rfl) arg_nil)) (ev_bi (b_repr hgu hr h1 h2 h3 h4) E.B.repr boot_repr (arg_cons (ev_var 1 rfl) arg_nil))) (by rw [decide_eq_true rfl])) ⟨rfl, rfl⟩
end
end PW
namespace PW
open PySem PySem.Spec PyProof.Rows L2
abbrev El := List (Int × Int × Int)
def elD (el : El) : D := .dic (el.map fun q => Sum.inl q.1) (el.map fun q => .tup [.int q.2.1, .int q.2.2])
def newEl (s : Snd) (r : Roa) (hs : List Hrd) : El := (txs hs).map fun t => (t, lowT s r hs t, highT s r hs t)
structure SROk (s : Snd) (r : Roa) (st : List (Int × Int)) (hs : List Hrd) (el : El) : Prop where
  sp : SpOk2 s r hs
  tr : ∀ t : Int, firstT hs ≤ t → t ≤ lastT hs → ∃ q, st[t.toNat]? = some q ∧ lowT s r hs t ≤ q.1 ∧ q.1 ≤ highT s r hs t
  nd : (el.map (·.1)).Nodup
  el : ∀ q ∈ el, firstT hs ≤ q.1 → q.1 ≤ lastT hs → q.2.1 ≤ lowT s r hs q.1 ∧ highT s r hs q.1 ≤ q.2.2
  bd : ∀ t, firstT hs ≤ t → t ≤ lastT hs → (-1000000 ≤ lowT s r hs t ∧ lowT s r hs t ≤ 1000000) ∧ -1000000 ≤ highT s r hs t ∧ highT s r hs t ≤ 1000000
theorem SpOk2.ord {s : Snd} {r : Roa} {hs : List Hrd} (h : SpOk2 s r hs) : (minL (hs.map Hrd.t) = firstT hs ∧ maxL (hs.map Hrd.t) = lastT hs) ∧ firstT hs ≤ lastT hs := by
  have h1 : (hs.headD ⟨0, 0, 0⟩) ∈ hs := by
    cases hs with
    | nil => exact absurd rfl h.ho.ne
    | cons x xs => simp
  have h2 : (hs.getLastD ⟨0, 0, 0⟩) ∈ hs := by
    cases hs with
    | nil => exact absurd rfl h.ho.ne
    | cons x xs =>
      rw [List.getLastD_cons]
      have := List.getLast_mem (l := x :: xs) (by simp)
      rw [List.getLast_eq_getLastD] at this
      exact this
  have hne : hs.map Hrd.t ≠ [] := by simpa using h.ho.ne
  have m1 : firstT hs ∈ hs.map Hrd.t := List.mem_map.mpr ⟨_, h1, rfl⟩
  have m2 : lastT hs ∈ hs.map Hrd.t := List.mem_map.mpr ⟨_, h2, rfl⟩
  obtain ⟨x, hx, ex⟩ := List.mem_map.mp (minL_mem hne)
  obtain ⟨y, hy, ey⟩ := List.mem_map.mp (maxL_mem hne)
  have a1 := minL_le m1
  have a2 := maxL_le m2
  have a3 := h.rng x hx
  have a4 := h.rng y hy
  have a5 := h.rng _ h1
  refine ⟨⟨by omega, by omega⟩, by omega⟩
theorem newEl_d (s : Snd) (r : Roa) (hs : List Hrd) : elD (newEl s r hs) = .dic ((txs hs).map fun t => Sum.inl t) ((txs hs).map (spRow s r hs)) := by
  unfold elD newEl
  rw [List.map_map, List.map_map] <;> rfl
theorem txs_nd (hs : List Hrd) : (txs hs).Nodup := by
  unfold txs
  have := List.nodup_range (n := (lastT hs + 1 - firstT hs).toNat)
  exact this.map _ fun a b h z => h (by omega)
theorem txs_rng (hs : List Hrd) : (txs hs).map D.int = rngD (firstT hs) (lastT hs + 1 - firstT hs).toNat := by
  unfold txs rngD
  rw [List.map_map] <;> rfl
section
variable {P : Program} {w : World} {K : PySem.W.Frag} {mg : Str → Option Value} {base : Heap}
def g_spans_right : List D → D → Prop := fun ds d => ∃ (s : Snd) (r : Roa) (e : Ear) (st : List (Int × Int)) (hs : List Hrd) (el : El), ds = [bookD s r e, .tup (st.map pD), hrdD hs, elD el] ∧ SROk s r st hs el ∧ d = elD (newEl s r hs)
theorem ok_spans_right (E : Env1 K mg) : ClG P w K mg base 8 "_law_are_spans_right" (pureC g_spans_right) := by
  have nd : (["_law_volume_here", "_law_starts_here", "_law_some", "_law_elder", "_law_texts", "_law_told", "_law_k", "_law_side", "_law_item", "_law_first", "_law_last", "_law_moments", "_law_low", "_law_high", "_law_part", "_law_moment", "_law_pair", "_law_row"] : List Str).Nodup := by decide +kernel
  refine clG_ok (N := ["_law_volume_here", "_law_starts_here", "_law_some", "_law_elder", "_law_texts", "_law_told", "_law_k", "_law_side", "_law_item", "_law_first", "_law_last", "_law_moments", "_law_low", "_law_high", "_law_part", "_law_moment", "_law_pair", "_law_row"]) (ps := ["_law_volume_here", "_law_starts_here", "_law_some", "_law_elder"]) (E.T.at 64) ⟨rfl, rfl, rfl, nd, rfl, by decide +kernel, by decide +kernel⟩ (fun _ _ _ _ _ _ us hl => match us, hl with | [_, _, _, _], _ => rfl) ?_ ?_
  · rintro M ds os d os1 ⟨_, s, r, e, st, hs, el, rfl, _⟩
    rfl
  · rintro f cdv A outer sh H E0 hr hgu M ds os d os1 ⟨rfl, s, r, e, st, hs, el, rfl, ok, rfl⟩
    obtain ⟨⟨eF, eL⟩, fl⟩ := ok.sp.ord
    have ho := ok.sp.ho
    have hlen := ho.len
    obtain ⟨b1, b2, b3, b4, b5⟩ := txs_len ho
    have hne : hs.map Hrd.t ≠ [] := by simpa using ho.ne
    have tl : ((txs hs).length : Int) = lastT hs + 1 - firstT hs := by
      rw [txs_lenE]
      omega
    have rowAt : ∀ t : Int, firstT hs ≤ t → t ≤ lastT hs → atI ((txs hs).map (spRow s r hs)) (t - firstT hs) = some (spRow s r hs t) := fun t h1 h2 => by
      rw [show t - firstT hs = (((t - firstT hs).toNat : Nat) : Int) by omega]
      refine atI_nat ?_
      rw [List.getElem?_map, txs_at h1 h2] <;> rfl
    let δ1 : Option D → Option D → Option D → Option D → Option D → Option D → Option D → List (Option D) := fun k side item mo lo hi pa => [some (bookD s r e), some (.tup (st.map pD)), some (hrdD hs), some (elD el), some (.lst ((hs.map Hrd.t).map D.int)), some (.tup ((txs hs).map (spRow s r hs))), k, side, item, some (.int (firstT hs)), some (.int (lastT hs)), mo, lo, hi, pa, none, none, none]
    refine
    stm_env [some (bookD s r e), some (.tup (st.map pD)), some (hrdD hs), some (elD el), none, none, none, none, none, none, none, none, none, none, none, none, none, none] rfl <|
    stm_setLc0 4 (own := [("_law_k", 6), ("_law_part", 14), ("_law_moment", 15)]) hs Hrd.d (fun h => .int h.t) (wk_tup (ev_var 2 rfl)) (blkOk_by (by kernel_rfl)) (fun _ _ _ _ _ _ => (tgt_tup rfl (tgts_cons (tgt_name 6 nd) (tgts_cons (tgt_name 14 nd) (tgts_cons (tgt_name 15 nd) tgts_nil))) (fCons_len (fCons_len (fCons_len fNil_len))))) (fun x hx => ⟨_, rfl, fun L acc s2 H C cl fp => (ev_var 6 rfl)⟩) (by omega) rfl nd <|
    stm_env [some (bookD s r e), some (.tup (st.map pD)), some (hrdD hs), some (elD el), some (.lst ((hs.map Hrd.t).map D.int)), none, none, none, none, none, none, none, none, none, none, none, none, none] (by rw [List.map_map] <;> rfl) <|
    stm_asg (d := .tup [.int (firstT hs), .int (lastT hs)]) (ev_eq (ev_tup (arg_cons (ev_bi (b_min (ns := hs.map Hrd.t) rfl hne) E.B.min boot_min (arg_cons (ev_var 4 rfl) arg_nil)) (arg_cons (ev_bi (b_max (ns := hs.map Hrd.t) rfl hne) E.B.max boot_max (arg_cons (ev_var 4 rfl) arg_nil)) arg_nil))) (by rw [eF, eL])) (tgt_tup rfl (tgts_cons (tgt_name 9 nd) (tgts_cons (tgt_name 10 nd) tgts_nil)) (fCons_len (fCons_len fNil_len))) rfl <|
    stm_set 5 (ev_callP (ok_spans E) hr (arg_cons (ev_ixT (i := 0) (d := s.d) (ev_var 0 rfl) ev_int rfl) (arg_cons (ev_ixT (i := 1) (d := r.d) (ev_var 0 rfl) ev_int rfl) (arg_cons (ev_var 2 rfl) arg_nil))) ⟨s, r, hs, rfl, ok.sp.toSpOk, rfl⟩) nd <|
    stm_env [some (bookD s r e), some (.tup (st.map pD)), some (hrdD hs), some (elD el), some (.lst ((hs.map Hrd.t).map D.int)), some (.tup ((txs hs).map (spRow s r hs))), none, none, none, some (.int (firstT hs)), some (.int (lastT hs)), none, none, none, none, none, none, none] rfl <|
    stm_ifF (tst_eq (tst_w (tsw_or (tst_not (tst_val (ev_bi (b_isi (fun _ _ => ty_tup) kit_tup_tup) E.B.isinstance boot_isinstance (arg_cons (ev_var 5 rfl) (arg_cons (ev_ty E.B.tuple boot_tuple) arg_nil))))) fun h3 => (tsw_or1 (tst_cmp c_neI (ev_bi b_lenT E.B.len boot_len (arg_cons (ev_var 5 rfl) arg_nil)) (ev_add (ev_sub (ev_var 10 rfl) (ev_var 9 rfl)) ev_int))))) (by
      rw [List.length_map, tl]
      simp
      omega)) <|
    stm_for (wk_rng2 E.B.range (arg_cons (ev_var 9 rfl) (arg_cons (ev_add (ev_var 10 rfl) ev_int) arg_nil)) (by omega)) (tgt_name 6 nd)
      (fun i δ os2 => os2 = os1 ∧ ∃ x y z, δ = [some (bookD s r e), some (.tup (st.map pD)), some (hrdD hs), some (elD el), some (.lst ((hs.map Hrd.t).map D.int)), some (.tup ((txs hs).map (spRow s r hs))), x, none, none, some (.int (firstT hs)), some (.int (lastT hs)), none, y, z, none, none, none, none]) ⟨rfl, _, _, _, rfl⟩ ?_ (fun δ os2 h => ?_) pn rfl
    · rintro i d δ os2 hd ⟨rfl, x, y, z, rfl⟩
      obtain ⟨hi, rfl⟩ := rngD_get hd
      generalize hk : firstT hs + (i : Int) = t
      have t1 : firstT hs ≤ t := by omega
      have t2 : t ≤ lastT hs := by omega
      obtain ⟨q, hq, g1, g2⟩ := ok.tr t t1 t2
      have hst : atI (st.map pD) t = some (pD q) := by
        rw [show t = ((t.toNat : Nat) : Int) by omega]
        refine atI_nat ?_
        rw [List.getElem?_map, hq] <;> rfl
      refine ⟨_, rfl,
      stm_asg (d := spRow s r hs t) (ev_ixT (ev_var 5 rfl) (ev_sub (ev_var 6 rfl) (ev_var 9 rfl)) (rowAt t t1 t2)) (tgt_tup rfl (tgts_cons (tgt_name 12 nd) (tgts_cons (tgt_name 13 nd) tgts_nil)) (fCons_len (fCons_len fNil_len))) rfl <|
      stm_env [some (bookD s r e), some (.tup (st.map pD)), some (hrdD hs), some (elD el), some (.lst ((hs.map Hrd.t).map D.int)), some (.tup ((txs hs).map (spRow s r hs))), some (.int t), none, none, some (.int (firstT hs)), some (.int (lastT hs)), none, some (.int (lowT s r hs t)), some (.int (highT s r hs t)), none, none, none, none] rfl <|
      stm_ifF (tst_eq (tst_not (tst_chain c_le c_le (ev_var 12 rfl) (ev_ixT (ev_ixT (ev_var 1 rfl) (ev_var 6 rfl) hst) ev_int rfl) (ev_var 13 rfl) fun _ => rfl)) (by rw [decide_eq_true g1, decide_eq_true g2] <;> rfl)) <|
      stm_ifF (tst_eq (b' := false) (tst_w (tsw_and (k' := false) (tst_din hr (ev_var 6 rfl) (ev_var 3 rfl)) fun h9 => ?_)) (by simp)) <| stm_nil ⟨rfl, _, _, _, rfl⟩⟩
      have hm := hasK_iff.mp h9
      obtain ⟨p, hp1, hp2⟩ := List.mem_map.mp hm
      have hp3 : p.1 = t := Sum.inl.inj hp2
      obtain ⟨n, hn⟩ := List.getElem?_of_mem hp1
      have hnd : (el.map fun q => (Sum.inl q.1 : Key)).Nodup := by
        rw [show (el.map fun q => (Sum.inl q.1 : Key)) = (el.map (·.1)).map Sum.inl by rw [List.map_map] <;> rfl]
        exact ok.nd.map _ fun a b h z => h (Sum.inl.inj z)
      obtain ⟨k1, k2⟩ := ok.el p hp1 (by omega) (by omega)
      rw [hp3] at k1 k2
      have ks : (el.map fun q => (Sum.inl q.1 : Key))[n]? = some (.inl t) := by rw [List.getElem?_map, hn, ← hp3] <;> rfl
      have vs : (el.map fun q => D.tup [.int q.2.1, .int q.2.2])[n]? = some (.tup [.int p.2.1, .int p.2.2]) := by rw [List.getElem?_map, hn] <;> rfl
      refine tsw_and1 (tst_eq (tst_w (tsw_or (tst_cmp c_lt (ev_var 12 rfl) (ev_ixT (i := 0) (ev_dget n hr (ev_var 3 rfl) (ev_var 6 rfl) ks vs hnd) ev_int rfl)) fun h8 => (tsw_or1 (tst_cmp c_gt (ev_var 13 rfl) (ev_ixT (i := 1) (ev_dget n hr (ev_var 3 rfl) (ev_var 6 rfl) ks vs hnd) ev_int rfl))))) ?_)
      rw [decide_eq_false (by omega), decide_eq_false (by omega)] <;> rfl
    · obtain ⟨rfl, x, y, z, rfl⟩ := h
      refine
      stm_for (wk_rng1 E.B.range (arg_cons ev_int arg_nil) (by omega)) (tgt_name 7 nd)
        (fun i δ os3 => os3 = os2 ∧ ∃ u m, δ = [some (bookD s r e), some (.tup (st.map pD)), some (hrdD hs), some (elD el), some (.lst ((hs.map Hrd.t).map D.int)), some (.tup ((txs hs).map (spRow s r hs))), x, u, none, some (.int (firstT hs)), some (.int (lastT hs)), m, y, z, none, none, none, none]) ⟨rfl, _, _, rfl⟩ ?_ (fun δ os3 h => ?_) pn rfl
      · rintro i d δ os3 hd ⟨rfl, u, m, rfl⟩
        obtain ⟨hi, rfl⟩ := rngD_get hd
        have main : ∀ (k : Int) (F : Int → Int), (∀ t, atI [D.int (lowT s r hs t), .int (highT s r hs t)] k = some (.int (F t))) → (∀ t, firstT hs ≤ t → t < lastT hs → s.a ≤ F (t + 1) - F t ∧ F (t + 1) - F t ≤ s.b) → (∀ h ∈ hs, r.p ≤ h.m - F h.t ∧ h.m - F h.t ≤ r.p + r.q) →
            Stm (cxOf C8.CX0 P w K mg base ["_law_volume_here", "_law_starts_here", "_law_some", "_law_elder", "_law_texts", "_law_told", "_law_k", "_law_side", "_law_item", "_law_first", "_law_last", "_law_moments", "_law_low", "_law_high", "_law_part", "_law_moment", "_law_pair", "_law_row"] "_law_are_spans_right" (defScope (top 94)) f cdv A outer sh H E0).nox M os3 [some (bookD s r e), some (.tup (st.map pD)), some (hrdD hs), some (elD el), some (.lst ((hs.map Hrd.t).map D.int)), some (.tup ((txs hs).map (spRow s r hs))), x, some (.int k), none, some (.int (firstT hs)), some (.int (lastT hs)), m, y, z, none, none, none, none]
              (match (defBody (top 94)).getD 5 (.Pass ⟨0, 0, 0, 0⟩) with
                | .For _ _ b _ _ => b
                | _ => []) ⟨M, M, fun δ os4 => os4 = os3 ∧ ∃ u m, δ = [some (bookD s r e), some (.tup (st.map pD)), some (hrdD hs), some (elD el), some (.lst ((hs.map Hrd.t).map D.int)), some (.tup ((txs hs).map (spRow s r hs))), x, u, none, some (.int (firstT hs)), some (.int (lastT hs)), m, y, z, none, none, none, none], fun d1 os4 => d1 = elD (newEl s r hs) ∧ os4 = os3⟩ := by
          intro k F hF hpace harr
          refine
          stm_setLc0 11 (own := [("_law_pair", 16)]) (txs hs) (spRow s r hs) (fun t => .int (F t)) (wk_tup (ev_var 5 rfl)) (blkOk_by (by kernel_rfl)) (fun _ _ _ _ _ _ => (tgt_name 16 nd)) (fun t ht => ⟨_, rfl, fun L acc s2 H C cl fp => (ev_ixT (ev_var 16 rfl) (ev_var 7 rfl) (hF t))⟩) (by omega) rfl nd <|
          stm_env [some (bookD s r e), some (.tup (st.map pD)), some (hrdD hs), some (elD el), some (.lst ((hs.map Hrd.t).map D.int)), some (.tup ((txs hs).map (spRow s r hs))), x, some (.int k), none, some (.int (firstT hs)), some (.int (lastT hs)), some (.lst (((txs hs).map F).map D.int)), y, z, none, none, none, none] (by rw [show ((txs hs).map F).map D.int = (txs hs).map fun t => D.int (F t) by rw [List.map_map] <;> rfl] <;> rfl) <|
          stm_ifF (tst_eq (tst_w (tsw_or (tst_not (tst_val (ev_callP (ok_are_starts E) hr (arg_cons (ev_var 11 rfl) (arg_cons (ev_ixT (i := 0) (d := s.d) (ev_var 0 rfl) ev_int rfl) arg_nil)) ⟨s, _, rfl, ?_, ?_, rfl⟩))) fun h12 => (tsw_or1 (tst_not (tst_val (ev_callP (ok_do_come E) hr (arg_cons (ev_var 11 rfl) (arg_cons (ev_var 9 rfl) (arg_cons (ev_var 0 rfl) (arg_cons (ev_var 2 rfl) arg_nil)))) ⟨s, r, e, _, _, hs, rfl, ?_, rfl⟩)))))) rfl) <| stm_nil ⟨rfl, _, _, rfl⟩
          · rw [List.length_map]
            omega
          · intro i x y hx hy
            rw [List.getElem?_map] at hx hy
            obtain ⟨t, ht, rfl⟩ := Option.map_eq_some_iff.mp hx
            obtain ⟨t', ht', rfl⟩ := Option.map_eq_some_iff.mp hy
            obtain ⟨e1, e2⟩ := txs_get ht
            obtain ⟨e3, e4⟩ := txs_get ht'
            have e5 : t' = t + 1 := by omega
            subst e5
            exact hpace t (by omega) (by omega)
          · intro h hh
            obtain ⟨r1, r2⟩ := ok.sp.rng h hh
            obtain ⟨g1, g2⟩ := harr h hh
            exact ⟨F h.t, by omega, by rw [List.getElem?_map, txs_at r1 r2] <;> rfl, g1, g2⟩
        have hi2 : i = 0 ∨ i = 1 := by
          have : i < 2 := hi
          omega
        rcases hi2 with rfl | rfl
        · exact ⟨_, rfl, main 0 (fun t => lowT s r hs t) (fun t => rfl) (fun t h1 h2 => (ok.sp.pace t h1 h2).1) fun h hh => (ok.sp.arr h hh).1⟩
        · exact ⟨_, rfl, main 1 (fun t => highT s r hs t) (fun t => rfl) (fun t h1 h2 => (ok.sp.pace t h1 h2).2) fun h hh => (ok.sp.arr h hh).2⟩
      · obtain ⟨rfl, u, m, rfl⟩ := h
        refine
        stm_set 8 (ev_callP (ok_span_paper E) hr (arg_cons (ev_ixT (i := 0) (d := s.d) (ev_var 0 rfl) ev_int rfl) (arg_cons (ev_ixT (i := 1) (d := r.d) (ev_var 0 rfl) ev_int rfl) (arg_cons (ev_var 2 rfl) arg_nil))) ⟨s, r, hs, rfl, ok.sp.toSpOk, rfl⟩) nd <|
        stm_env [some (bookD s r e), some (.tup (st.map pD)), some (hrdD hs), some (elD el), some (.lst ((hs.map Hrd.t).map D.int)), some (.tup ((txs hs).map (spRow s r hs))), x, u, some (papD s r hs), some (.int (firstT hs)), some (.int (lastT hs)), m, y, z, none, none, none, none] rfl <|
        stm_ifF (tst_eq (tst_w (tsw_or (tst_cmp c_notTrue (ev_callP (ok_lets_spans E) hr (arg_cons (ev_ixT (i := 0) (d := s.d) (ev_var 0 rfl) ev_int rfl) (arg_cons (ev_ixT (i := 1) (d := r.d) (ev_var 0 rfl) ev_int rfl) (arg_cons (ev_var 2 rfl) (arg_cons (ev_var 8 rfl) arg_nil)))) ⟨s, r, hs, rfl, ok.sp, rfl⟩) ev_bl) fun h15 => (tsw_or1 (tst_cmp c_neS (ev_ixT (i := 0) (ev_var 8 rfl) ev_int rfl) ev_str)))) (by rw [decide_eq_true rfl] <;> rfl)) <|
        stm_ifF (tst_eq (tst_not (tst_val (ev_callG (ok_same E) hgu hr (arg_cons (ev_lc0 (own := [("_law_row", 17)]) (txs hs) (papRow s r hs) (spRow s r hs) (wk_tup (ev_ixT (i := 1) (d := papRows s r hs) (ev_var 8 rfl) ev_int rfl)) (blkOk_by (by kernel_rfl)) (fun _ _ _ _ _ _ => (tgt_name 17 nd)) (fun t ht => ⟨_, rfl, fun L acc s2 H C cl fp => ev_eq (ev_cutT (ev_var 17 rfl) prt_no (prt_yes ev_int)) rfl⟩) (by omega) rfl nd) (arg_cons (ev_bt b_lstT E.B.list boot_list (arg_cons (ev_var 5 rfl) arg_nil)) arg_nil)) ⟨rfl, _, rfl, ?_, ?_, ?_, ⟨_, .inr rfl⟩, rfl⟩))) rfl) <|
        stm_ret (ev_eq (ev_bt (b_dictP (txs hs) (fun t => t) (spRow s r hs) rfl (by rw [List.map_id']; exact txs_nd hs)) E.B.dict boot_dict (arg_cons (ev_lc0 (own := [("_law_k", 6)]) (txs hs) D.int (fun t => .tup [.int t, spRow s r hs t]) ?_ (blkOk_by (by kernel_rfl)) (fun _ _ _ _ _ _ => (tgt_name 6 nd)) (fun t ht => ⟨_, rfl, fun L acc s2 H C cl fp => ?_⟩) (by omega) rfl nd) arg_nil)) (newEl_d s r hs).symm) ⟨rfl, rfl⟩
        · simp only [okD]
          exact okA_map fun t _ => rfl
        · simp only [smD]
          refine smA_all fun d hd => ?_
          obtain ⟨t, ht, rfl⟩ := List.mem_map.mp hd
          obtain ⟨n, hn⟩ := List.getElem?_of_mem ht
          obtain ⟨e1, e2⟩ := txs_get hn
          obtain ⟨⟨g1, g2⟩, g3, g4⟩ := ok.bd t (by omega) e2
          unfold spRow
          simp [smD, smA]
          omega
        · simp only [wtD]
          refine Nat.le_trans (wtA_le (m := 200) fun d hd => ?_) ?_
          · obtain ⟨t, ht, rfl⟩ := List.mem_map.mp hd
            unfold spRow
            simp only [wtD, wtA]
            omega
          · rw [List.length_map]
            omega
        · rw [txs_rng]
          exact wk_rng2 E.B.range (arg_cons (ev_var 9 rfl) (arg_cons (ev_add (ev_var 10 rfl) ev_int) arg_nil)) (by omega)
        · obtain ⟨n, hn⟩ := List.getElem?_of_mem ht
          obtain ⟨e1, e2⟩ := txs_get hn
          exact ev_tup (arg_cons (ev_var 6 rfl) (arg_cons (ev_ixT (ev_var 5 rfl) (ev_sub (ev_var 6 rfl) (ev_var 9 rfl)) (rowAt t (by omega) e2)) arg_nil))
end
end PW
namespace PW
open PySem PySem.Spec PyProof.Rows L2
theorem inD_int (x : Int) (ns : List Int) : inD (.int x) (ns.map D.int) = decide (x ∈ ns) := by
  unfold inD
  induction ns with
  | nil => rfl
  | cons y ns ih =>
    unfold inV at ih ⊢
    rw [List.map_cons, List.map_cons, List.any_cons, ih]
    by_cases h : y = x
    · subst h
      simp [toV, eqV]
    · have h2 : ¬ x = y := fun z => h z.symm
      simp [toV, eqV, h, h2]
theorem cutD_init {α : Type} (l : List α) (a : α) : cutD (l ++ [a]) none (some (-1)) = l := by
  unfold cutD
  rw [HT.sIx_none, List.drop_zero, Nat.sub_zero]
  have e : HT.sIx (l ++ [a]).length (l ++ [a]).length (some (-1)) = l.length := by
    unfold HT.sIx
    simp
    try omega
  rw [e]
  simp
theorem mens_asc (s : Snd) (r : Roa) (g : Int) : (mensF s r g).Pairwise (· < ·) := by
  unfold mensF
  rw [List.pairwise_map]
  refine List.Pairwise.filter _ ?_
  refine List.Pairwise.imp (fun {a b} h => ?_) List.pairwise_lt_range
  omega
theorem mng_asc (s : Snd) (r : Roa) (n g l : Int) : (mngF s r n g l).Pairwise (· < ·) := (mens_asc s r g).filter _
structure MROk (s : Snd) (r : Roa) (st : List (Int × Int)) (a b : Arr) (sure : Bool) : Prop where
  g0 : 0 ≤ a.m - b.m
  g1 : a.m - b.m ≤ 1000
  ta : a.t < st.length
  tb : b.t < st.length
  na : 0 ≤ (st.getD a.t (0, 0)).2 ∧ (st.getD a.t (0, 0)).2 < s.m
  nb : 0 ≤ (st.getD b.t (0, 0)).2 ∧ (st.getD b.t (0, 0)).2 < s.m
  mem : (a.t : Int) - b.t ∈ mngF s r (st.getD b.t (0, 0)).2 (a.m - b.m) (st.getD a.t (0, 0)).2
  len : (mngF s r (st.getD b.t (0, 0)).2 (a.m - b.m) (st.getD a.t (0, 0)).2).length < 64
  su : sure = true → mngF s r (st.getD b.t (0, 0)).2 (a.m - b.m) (st.getD a.t (0, 0)).2 = [(a.t : Int) - b.t]
  t5 : st.length ≤ 1000
section
variable {P : Program} {w : World} {K : PySem.W.Frag} {mg : Str → Option Value} {base : Heap}
def g_mean_right : List D → D → Prop := fun ds d => ∃ (s : Snd) (r : Roa) (e : Ear) (st : List (Int × Int)) (cs : List Arr) (a : Arr) (sure : Bool), ds = [bookD s r e, .tup (st.map pD), .tup ((cs ++ [a]).map Arr.d), .bl sure] ∧ s.Ok ∧ r.Ok ∧ (∀ b ∈ cs, MROk s r st a b sure) ∧ d = .bl true
theorem ok_mean_right (E : Env1 K mg) : ClG P w K mg base 8 "_law_are_meanings_right" (pureC g_mean_right) := by
  have nd : (["_law_volume_here", "_law_starts_here", "_law_came", "_law_is_sure", "_law_moment", "_law_k", "_law_part", "_law_early", "_law_other", "_law_one", "_law_told"] : List Str).Nodup := by decide +kernel
  refine clG_ok (N := ["_law_volume_here", "_law_starts_here", "_law_came", "_law_is_sure", "_law_moment", "_law_k", "_law_part", "_law_early", "_law_other", "_law_one", "_law_told"]) (ps := ["_law_volume_here", "_law_starts_here", "_law_came", "_law_is_sure"]) (E.T.at 65) ⟨rfl, rfl, rfl, nd, rfl, by decide +kernel, by decide +kernel⟩ (fun _ _ _ _ _ _ us hl => match us, hl with | [_, _, _, _], _ => rfl) ?_ ?_
  · rintro M ds os d os1 ⟨_, s, r, e, st, cs, a, sure, rfl, _⟩
    rfl
  · rintro f cdv A outer sh H E0 hr hgu M ds os d os1 ⟨rfl, s, r, e, st, cs, a, sure, rfl, so, ro, ok, rfl⟩
    have hlast : atI ((cs ++ [a]).map Arr.d) (-1) = some a.d := atI_lastX (by rw [List.getLast?_map, List.getLast?_append] <;> rfl)
    refine
    stm_asg (d := a.d) (ev_ixT (ev_var 2 rfl) (ev_neg ev_int) hlast) (tgt_tup rfl (tgts_cons (tgt_name 4 nd) (tgts_cons (tgt_name 5 nd) (tgts_cons (tgt_name 6 nd) tgts_nil))) (fCons_len (fCons_len (fCons_len fNil_len)))) rfl <|
    stm_env [some (bookD s r e), some (.tup (st.map pD)), some (.tup ((cs ++ [a]).map Arr.d)), some (.bl sure), some (.int a.m), some (.int (a.t : Nat)), some (.int (a.p : Nat)), none, none, none, none] rfl <|
    stm_for (wk_tup (ds := cs.map Arr.d) (ev_eq (ev_cutT (ev_var 2 rfl) prt_no (prt_yes (ev_neg ev_int))) (by rw [cutD_map]; exact congrArg (fun l => D.tup (l.map Arr.d)) (cutD_init cs a)))) (tgt_tup rfl (tgts_cons (tgt_name 7 nd) (tgts_cons (tgt_name 8 nd) (tgts_cons (tgt_name 9 nd) tgts_nil))) (fCons_len (fCons_len (fCons_len fNil_len))))
      (fun i δ os2 => os2 = os1 ∧ ∃ x y z u, δ = [some (bookD s r e), some (.tup (st.map pD)), some (.tup ((cs ++ [a]).map Arr.d)), some (.bl sure), some (.int a.m), some (.int (a.t : Nat)), some (.int (a.p : Nat)), x, y, z, u]) ⟨rfl, _, _, _, _, rfl⟩ ?_ (fun δ os2 h => ?_) pn rfl
    · rintro i d δ os2 hd ⟨rfl, x, y, z, u, rfl⟩
      rw [List.getElem?_map] at hd
      obtain ⟨b, hb, rfl⟩ := Option.map_eq_some_iff.mp hd
      have q := ok b (List.mem_of_getElem? hb)
      have asc := mng_asc s r (st.getD b.t (0, 0)).2 (a.m - b.m) (st.getD a.t (0, 0)).2
      have hlen := q.len
      have hmem := q.mem
      have hsu := q.su
      refine ⟨_, rfl,
      stm_env [some (bookD s r e), some (.tup (st.map pD)), some (.tup ((cs ++ [a]).map Arr.d)), some (.bl sure), some (.int a.m), some (.int (a.t : Nat)), some (.int (a.p : Nat)), some (.int b.m), some (.int (b.t : Nat)), some (.int (b.p : Nat)), u] rfl <|
      stm_set 10 (ev_callP (ok_meanings_of E) hr (arg_cons (ev_ixT (i := 0) (d := s.d) (ev_var 0 rfl) ev_int rfl) (arg_cons (ev_ixT (i := 1) (d := r.d) (ev_var 0 rfl) ev_int rfl) (arg_cons (ev_ixT (ev_ixT (ev_var 1 rfl) (ev_var 8 rfl) (pD_at q.tb)) ev_int rfl) (arg_cons (ev_sub (ev_var 4 rfl) (ev_var 7 rfl)) (arg_cons (ev_ixT (ev_ixT (ev_var 1 rfl) (ev_var 5 rfl) (pD_at q.ta)) ev_int rfl) arg_nil))))) ⟨s, r, _, _, _, rfl, so, ro, q.g0, q.g1, q.nb.1, q.nb.2, q.na.1, q.na.2, rfl⟩) nd ?_⟩
      generalize mngF s r (st.getD b.t (0, 0)).2 (a.m - b.m) (st.getD a.t (0, 0)).2 = ns at *
      refine
      stm_env [some (bookD s r e), some (.tup (st.map pD)), some (.tup ((cs ++ [a]).map Arr.d)), some (.bl sure), some (.int a.m), some (.int (a.t : Nat)), some (.int (a.p : Nat)), some (.int b.m), some (.int (b.t : Nat)), some (.int (b.p : Nat)), some (.tup (ns.map D.int))] rfl <|
      stm_ifF (tst_eq (tst_w (tsw_or (tst_cmp (c_ninT rfl (by rw [List.all_map, List.all_eq_true]; exact fun _ _ => rfl)) (ev_sub (ev_var 5 rfl) (ev_var 8 rfl)) (ev_var 10 rfl)) fun h3 => (tsw_or1 (tst_cmp (c_neD (n := 4) hr (by simp only [okD]; exact okA_map fun _ _ => rfl) (by simp only [okD]; exact okA_map fun _ _ => rfl)) (ev_bt b_lstT E.B.list boot_list (arg_cons (ev_var 10 rfl) arg_nil)) (ev_sortedSI rfl E.B.sorted E.B.set (arg_cons (ev_var 10 rfl) arg_nil) hlen asc))))) (by
        rw [inD_int, decide_eq_true hmem, eqD_intsL, decide_eq_true rfl] <;> rfl)) <|
      stm_ifF (tst_eq (b' := false) (tst_w (tsw_and (k' := false) (tst_val (ev_var 3 rfl)) fun h6 => ?_)) (by simp)) <| stm_nil ⟨rfl, _, _, _, _, rfl⟩
      have e1 := hsu h6
      subst e1
      exact tsw_and1 (tst_eq (tst_not (tst_val (ev_callG (ok_same E) hgu hr (arg_cons (ev_var 10 rfl) (arg_cons (ev_tup (arg_cons (ev_sub (ev_var 5 rfl) (ev_var 8 rfl)) arg_nil)) arg_nil)) ⟨rfl, _, rfl, by simp [okD, okA], by
        have := q.ta
        have := q.tb
        have := q.t5
        simp [smD, smA]
        omega, by simp [wtD, wtA], ⟨_, .inl rfl⟩, rfl⟩))) rfl)
    · obtain ⟨rfl, x, y, z, u, rfl⟩ := h
      exact stm_ret ev_bl ⟨rfl, rfl⟩
end
end PW
namespace PW
open PySem PySem.Spec PyProof.Rows L2
def Evt.isB : Evt → Bool
  | .beg _ _ => true
  | .hea _ => false
def nB (vs : List Evt) : Nat := vs.countP Evt.isB
def nH (vs : List Evt) : Nat := vs.countP fun v => !v.isB
theorem Evs.cnt {st : List (Int × Int)} {cs : List Arr} {i j : Nat} {vs : List Evt} (h : Evs st cs i j vs) : i = nB vs ∧ j = nH vs := by
  induction h with
  | nil => exact ⟨rfl, rfl⟩
  | @beg i j vs q h e ih =>
    unfold nB nH at *
    rw [List.countP_append, List.countP_append, List.countP_singleton, List.countP_singleton, if_pos (show (Evt.beg q.1 q.2).isB = true from rfl), if_neg (show ¬ (!(Evt.beg q.1 q.2).isB) = true from Bool.false_ne_true)]
    omega
  | @hea i j vs a h e _ ih =>
    unfold nB nH at *
    rw [List.countP_append, List.countP_append, List.countP_singleton, List.countP_singleton, if_neg (show ¬ (Evt.hea a).isB = true from Bool.false_ne_true), if_pos (show (!(Evt.hea a).isB) = true from rfl)]
    omega
def aL (a : Arr) : List Int := [(a.t : Int), (a.p : Int), a.m]
def toH (l : List Int) : Hrd := ⟨l.getD 0 0, l.getD 1 0, l.getD 2 0⟩
def hsOf (as : List Arr) : List Hrd := (lsort (dd (as.map aL))).map toH
theorem hsOf_d (as : List Arr) : D.tup ((lsort (dd (as.map aL))).map tupI) = hrdD (hsOf as) := by
  unfold hrdD hsOf
  rw [List.map_map]
  congr 1
  refine List.map_congr_left fun x hx => ?_
  obtain ⟨a, _, rfl⟩ := List.mem_map.mp (dd_mem.mp (lsort_mem.mp hx))
  rfl
def elF (s : Snd) (r : Roa) (cs : List Arr) (j : Nat) : El := if j = 0 then [] else newEl s r (hsOf (cs.take j))
structure RunOk (s : Snd) (r : Roa) (e : Ear) (st : List (Int × Int)) (cs : List Arr) (sure : Bool) : Prop where
  so : s.Ok
  ro : r.Ok
  eo : e.Ok
  sl : st.length ≤ 5
  cl : cs.length ≤ 30
  ct : ∀ a ∈ cs, a.t < st.length ∧ a.p ≤ 100 ∧ -1000 ≤ a.m ∧ a.m ≤ 1000
  bgo : ∀ (i : Nat) q (σ : Std), st[i]? = some q → σ.bg = st.take i → BegOk s σ q.1 q.2
  heo : ∀ (i j : Nat) a (σ : Std), cs[j]? = some a → a.t < i → i ≤ st.length → σ.bg = st.take i → σ.ar = cs.take j → HeaOk s r σ a
  sro : ∀ j, j < cs.length → SROk s r st (hsOf (cs.take (j + 1))) (elF s r cs j)
  mro : ∀ (j : Nat) a, cs[j]? = some a → ∀ b ∈ cs.take j, MROk s r st a b sure
theorem std0_ok (s : Snd) : std0.Ok s := ⟨by simp [std0], by simp [std0], ⟨by simp [std0], fun o h => by simp [std0] at h, fun o h => by simp [std0] at h⟩, by simp [std0], ⟨by simp [std0], by simp [std0]⟩, by simp [std0], by simp [std0]⟩
section
variable {P : Program} {w : World} {K : PySem.W.Frag} {mg : Str → Option Value} {base : Heap} {C : Addr}
structure JRun (C A x L1 L2 dx : Addr) (s : Snd) (r : Roa) (e : Ear) (st : List (Int × Int)) (cs : List Arr) (sure : Bool) (os0 : List MO) (vs : List Evt) (i : Nat) (δ : List (Option D)) (os2 : List MO) : Prop where
  ex : ∃ (f : Feed) (ss : List Std) (d1 d2 : List D) (σ : Std) (u v y z t : Option D), os2 = .lst d2 :: .lst d1 :: .ins C dx FS (lvD s r e (vs.take i) ss L1 L2) :: f.o :: os0 ∧ ss.getLast? = some σ ∧ σ.Ok s ∧ σ.bg = st.take (nB (vs.take i)) ∧ σ.ar = cs.take (nH (vs.take i)) ∧ ss.length = i + 1 ∧ d1.length = i ∧ d2.length = i ∧
    δ = [some (.adr A), some (bookD s r e), some (.tup (st.map pD)), some (.tup (cs.map Arr.d)), some (.bl sure), u, some (.adr x), some (.tup ((cs.take (nH (vs.take i))).map Arr.d)), some (elD (elF s r cs (nH (vs.take i)))), v, y, z, t]
def g_run_right : CtrX := fun M ds os Φ => ∃ (A : Addr) (M0 : List Addr) (f : Feed) (os0 : List MO) (s : Snd) (r : Roa) (e : Ear) (st : List (Int × Int)) (cs : List Arr) (sure : Bool), M = A :: M0 ∧ os = f.o :: os0 ∧ ds = [.adr A, bookD s r e, .tup (st.map pD), .tup (cs.map Arr.d), .bl sure] ∧ RunOk s r e st cs sure ∧ ∀ f' : Feed, Φ (.bl true) (f'.o :: os0)
structure ClGX (P : Program) (w : World) (K : PySem.W.Frag) (mg : Str → Option Value) (base : Heap) (k : Nat) (x : Str) (C : CtrX) : Prop where
  ex : ∃ (f : Addr) (fd : FuncData) (ps : List Str), FnG P w K mg base k f fd ps (spX C) ∧ mg x = some (.ref f) ∧ PySem.W.keepIn K (.ref f) = true ∧ Binds K fd ps []
theorem clGX_ok {x : Str} {st : Stmt} {N ps : List Str} {k : Nat} {C : CtrX} (h : HasD K mg x st) (S : FnScope N ps (defScope st))
    (hb : ∀ (kV doc pm : Value) (an : Option Addr) (cdv ct : Value) (us : List Value), us.length = ps.length → bindArgs (PySem.W.fnOf x x (defArgs st) (defBody st) (defScope st) .none kV doc pm an cdv ct) ⟨us, []⟩ = pure (ps.zip us))
    (hl : ∀ M ds os Φ, C M ds os Φ → ds.length = ps.length)
    (body : ∀ (f : Addr) (cdv : Value) (A : Around) (outer : List Env) (s : Shared) (H : Hp) (E : XK), Room k (A.deeper (envOfC x (defScope st) s.heap.objs.size f cdv)) → A.guards = some [] →
      BdyX (cxOf C8.CX0 P w K mg base N x (defScope st) f cdv A outer s H E).nox N (defBody st) C) : ClGX P w K mg base (k + 1) x C := by
  obtain ⟨f, fd, F, hm⟩ := h.ex
  exact ⟨f, fd, ps, fnG_of F S (fun vs H Q E ⟨M, os, ds, Φ, s, r, c, _⟩ => by rw [r.length]; exact hl _ _ _ _ c) fun cdv A outer s H vs Q E hr hg hsp => bdyX_ok (body f cdv A outer s H E hr hg) hsp, hm, F.kp, F.bindsN hb⟩
end
section
variable {X : Cx} {M : List Addr} {os os1 os2 os3 : List MO} {δ : List (Option D)} {a b c e : Expr} {pos p : Pos} {d da db : D} {j n k : Nat} {x : Str} {C : CtrX} {es : List Expr} {ds : List D}
theorem evX_callG (Φ : D → List MO → Prop) (c : ClGX X.prog X.w X.K X.mg X.base k x C) (hgu : X.A.guards = some []) (hr : Room j X.A) (ha : Arg X M os δ (e :: es) ds os1) (hC : C M ds os1 Φ) (hk : k ≤ j := by decide) (hg : Gl X x := by rfl) (hdb : (x == ("__debug__" : Str)) = false := by decide)
    (he : starEach (e :: es) X.env = (false, eval e X.env) :: starEach es X.env := by rfl) (hpl : (backTo pos (starEach es X.env)).any (·.1) = false := by rfl) : EvX X M os δ (.Call (.Name x p) (e :: es) [] pos) Φ := by
  obtain ⟨f, fd, ps, F, hm, kp, bi⟩ := c.ex
  refine ⟨fun pins s σ H Q I ⟨so, en, kq⟩ => ?_⟩
  refine wpAny_Call_Name_kw (ld_glob I hg hm ?_ hdb)
  refine PySem.W.callWith_K (h₀ := X.base) I.ok.mod.kin kp (thn (ha.run pos pins s σ H _ I ⟨so, en, fun vs H1 k1 s1 r1 => (⟨k1, s1, r1⟩ : Keep M H H1 ∧ Sok M os1 H1 ∧ RA M H1 vs ds)⟩) fun us s1 ⟨vs, H1, I1, r, k1, so1, ra⟩ => ⟨I1.kIn, ?_⟩) he hpl
  have hsp : spX C vs H1 Q C8.E0 := ⟨M, os1, ds, Φ, so1, ra, hC, fun d os' v H2 w k2 s2 r2 => kq d os' v H2 w (k1.trans k2) s2 r2⟩
  have hl : (us ++ []).length = ps.length := by
    rw [List.append_nil, ← r.length]
    exact F.len _ _ _ _ hsp
  have bb := bi s1 us I1.kIn hl
  rw [List.append_nil] at bb
  refine wpAny_call (codeAny_mono (F.run X.A X.stack s1 H1 ⟨us, []⟩ us vs Q C8.E0 (hr.mono hk) hgu I1.env0 bb r hsp) fun r s' hq => ?_)
  cases r with
  | error er => exact False.elim hq
  | ok fl =>
    cases fl with
    | ret u => exact I1.after hq
    | next => exact False.elim hq
    | brk => exact False.elim hq
    | cont => exact False.elim hq
theorem stm_retX {rest : List Stmt} {k : Kt} {Φ : D → List MO → Prop} (he : EvX X M os δ e Φ) (h : ∀ d os', Φ d os' → k.rt d os') (hm : k.mr = M) : Stm X M os δ (.Return (some e) pos :: rest) k :=
  pss_imp (pss_cons (ps_ret he) pss_never) fun Dn σ H ⟨s, en, n, r⟩ => ⟨s, en, fun d os' v H1 w k1 s1 r1 => r v d H1 os' k1 (by rw [hm]; exact s1) (by rw [hm]; exact r1) (h _ _ w)⟩
end
end PW
namespace PW
open PySem PySem.Spec PyProof.Rows L2
theorem nB_snoc (l : List Evt) (v : Evt) : nB (l ++ [v]) = nB l + (if v.isB then 1 else 0) := by
  unfold nB
  rw [List.countP_append, List.countP_singleton]
theorem nH_snoc (l : List Evt) (v : Evt) : nH (l ++ [v]) = nH l + (if v.isB then 0 else 1) := by
  unfold nH
  rw [List.countP_append, List.countP_singleton]
  cases v.isB <;> rfl
theorem take_snoc {α : Type} {l : List α} {i : Nat} {x : α} (h : l[i]? = some x) : l.take (i + 1) = l.take i ++ [x] := by
  rw [List.take_add_one, h] <;> rfl
theorem aL_bd {s : Snd} {r : Roa} {e : Ear} {st : List (Int × Int)} {cs : List Arr} {sure : Bool} (ok : RunOk s r e st cs sure) (j : Nat) : ∀ x ∈ (cs.take j).map aL, x.length = 3 ∧ BdS 2000 10000 x := fun x hx => by
  obtain ⟨a, ha, rfl⟩ := List.mem_map.mp hx
  have h1 := ok.ct a (List.mem_of_mem_take ha)
  have h2 := ok.sl
  refine ⟨rfl, fun z hz => ?_⟩
  simp only [aL, List.map_cons, List.map_nil, List.mem_cons, List.not_mem_nil, or_false] at hz
  rcases hz with rfl | rfl | rfl <;> omega
section
variable {P : Program} {w : World} {K : PySem.W.Frag} {mg : Str → Option Value} {base : Heap} {C : Addr}
theorem ok_run_right (E : Env1 K mg) (V : LvC K mg C) : ClGX P w K mg base 10 "_law_is_run_right" g_run_right := by
  have nd : (["_law_feed_here", "_law_volume_here", "_law_starts_here", "_law_comings_here", "_law_is_sure", "_law_what", "_law_live", "_law_came", "_law_elder", "_law_some", "_law_moment", "_law_k", "_law_part"] : List Str).Nodup := by decide +kernel
  refine clGX_ok (N := ["_law_feed_here", "_law_volume_here", "_law_starts_here", "_law_comings_here", "_law_is_sure", "_law_what", "_law_live", "_law_came", "_law_elder", "_law_some", "_law_moment", "_law_k", "_law_part"]) (ps := ["_law_feed_here", "_law_volume_here", "_law_starts_here", "_law_comings_here", "_law_is_sure"]) (E.T.at 66) ⟨rfl, rfl, rfl, nd, rfl, by decide +kernel, by decide +kernel⟩ (fun _ _ _ _ _ _ us hl => match us, hl with | [_, _, _, _, _], _ => rfl) ?_ ?_
  · rintro M ds os Φ ⟨A, M0, f, os0, s, r, e, st, cs, sure, _, _, rfl, _⟩
    rfl
  · rintro fa cdv Ar outer sh H E0 hr hgu M ds os Φ ⟨A, M0, f, os0, s, r, e, st, cs, sure, rfl, rfl, rfl, ok, hΦ⟩
    have sl := ok.sl
    have cl := ok.cl
    refine
    stm_env [some (.adr A), some (bookD s r e), some (.tup (st.map pD)), some (.tup (cs.map Arr.d)), some (.bl sure), none, none, none, none, none, none, none, none] rfl <|
    stm_par3N 6 7 8 (argN_here (ev_live (ok_init E V) hr (ev_var 1 rfl) ok.so ok.ro ok.eo) fun n => arg_cons (ev_tup arg_nil) (arg_cons ev_dempty arg_nil)) rfl nd fun n => ?_
    obtain ⟨x, L1, L2, dx⟩ := n
    refine
    stm_env [some (.adr A), some (bookD s r e), some (.tup (st.map pD)), some (.tup (cs.map Arr.d)), some (.bl sure), none, some (.adr x), some (.tup []), some (.dic [] []), none, none, none, none] rfl <|
    stm_forX (Ψ := fun ds os' => ∃ (vs : List Evt) (f' : Feed), ds = vs.map Evt.d ∧ Evs st cs st.length cs.length vs ∧ os' = .lst [] :: .lst [] :: .ins C dx FS (lvD s r e [] [std0] L1 L2) :: f'.o :: os0)
      (wkX_lst (evX_call (fun d os' => ∃ (vs : List Evt) (f' : Feed), d = .lst (vs.map Evt.d) ∧ Evs st cs st.length cs.length vs ∧ os' = .lst [] :: .lst [] :: .ins C dx FS (lvD s r e [] [std0] L1 L2) :: f'.o :: os0) (ok_events E) hr (arg_cons (ev_var 0 rfl) (arg_cons (ev_var 2 rfl) (arg_cons (ev_var 3 rfl) arg_nil)))
        ⟨A, [L2, L1, x], M0, f, [.lst [], .lst [], .ins C dx FS (lvD s r e [] [std0] L1 L2)], os0, st, cs, rfl, rfl, rfl, rfl, sl, by omega, fun a ha => (ok.ct a ha).1, fun vs f' h => ⟨vs, f', rfl, h, rfl⟩⟩) fun d os' ⟨vs, f', e1, e2, e3⟩ => ⟨_, e1, vs, f', rfl, e2, e3⟩) (tgt_name 5 nd)
      (fun ds i δ os2 => ∃ vs : List Evt, ds = vs.map Evt.d ∧ Evs st cs st.length cs.length vs ∧ JRun C A x L1 L2 dx s r e st cs sure os0 vs i δ os2) ?_ ?_ ?_ pn rfl
    · rintro ds os1 ⟨vs, f', rfl, hv, rfl⟩
      exact ⟨vs, rfl, hv, ⟨f', [std0], [], [], std0, _, _, _, _, _, rfl, rfl, std0_ok s, rfl, rfl, rfl, rfl, rfl, rfl⟩⟩
    · rintro ds os1 i d δ os2 _ hd ⟨vs, rfl, hv, ⟨f1, ss, d1, d2, σ, u, v', y, z, t, rfl, hss, hσ, hbg, har, l0, l1, l2, rfl⟩⟩
      rw [List.getElem?_map] at hd
      obtain ⟨v, hvi, rfl⟩ := Option.map_eq_some_iff.mp hd
      obtain ⟨i', j', ev1, hcase⟩ := hv.at hvi
      obtain ⟨ci, cj⟩ := ev1.cnt
      obtain ⟨n1, n2, n3⟩ := ev1.len
      obtain ⟨n4, _, _⟩ := hv.len
      have hiv := (List.getElem?_eq_some_iff.mp hvi).1
      rw [← ci] at hbg
      rw [← cj] at har
      have vo : EvtOk s r σ v := by
        rcases hcase with ⟨q, h1, rfl⟩ | ⟨a, h1, h2, rfl⟩
        · exact ok.bgo i' q σ h1 hbg
        · exact ok.heo i' j' a σ h1 h2 n2 hbg har
      have hσ' := stepF_ok (e := e) ok.so hσ vo
      have hts := take_snoc hvi
      have hln : (vs.take i).length = i := by rw [List.length_take]; omega
      refine ⟨_, rfl,
      stm_env [some (.adr A), some (bookD s r e), some (.tup (st.map pD)), some (.tup (cs.map Arr.d)), some (.bl sure), some v.d, some (.adr x), some (.tup ((cs.take j').map Arr.d)), some (elD (elF s r cs j')), v', y, z, t] (by rw [← cj] <;> rfl) <|
      stm_expr (ev_met 2 (ok_go E V) hr (ev_var 6 rfl) rfl rfl (by decide +kernel) (arg_cons (ev_var 5 rfl) arg_nil) ⟨x, s, r, e, vs.take i, ss, d1, d2, f1.o :: os0, σ, v, rfl, ok.so, ok.eo, hσ, hss, vo, by omega, by omega, by omega, by omega, rfl, L1, L2, A :: M0, dx, rfl, rfl, rfl⟩) ?_⟩
      rcases hcase with ⟨q, h1, rfl⟩ | ⟨a, h1, h2, rfl⟩
      · refine
        stm_ifF (tst_eq (tst_cmp c_eqS (ev_ixT (i := 0) (d := .str "begin") (ev_var 5 rfl) ev_int rfl) ev_str) (by decide +kernel)) <|
        stm_nil ⟨vs, rfl, hv, ⟨f1, ss ++ [stepF s e σ (.beg q.1 q.2)], d1 ++ [.bl true], d2 ++ [.bl true], stepF s e σ (.beg q.1 q.2), some (Evt.beg q.1 q.2).d, v', y, z, t, by rw [hts], by simp, hσ', ?_, ?_, by simp; omega, by simp; omega, by simp; omega, ?_⟩⟩
        · rw [hts, nB_snoc, ← ci, show (i' + if (Evt.beg q.1 q.2).isB = true then 1 else 0) = i' + 1 from rfl, take_snoc h1, ← hbg]
          rfl
        · rw [hts, nH_snoc, ← cj]
          exact har
        · rw [hts, nH_snoc, ← cj]
          rfl
      · have hjl := (List.getElem?_eq_some_iff.mp h1).1
        have har' : (stepF s e σ (.hea a)).ar = cs.take (j' + 1) := by
          rw [take_snoc h1, ← har]
          rfl
        generalize hσe : stepF s e σ (.hea a) = σ' at *
        refine
        stm_if (bl := true) (fun δ' os' => ∃ vs2 : List Evt, vs.map Evt.d = vs2.map Evt.d ∧ Evs st cs st.length cs.length vs2 ∧ JRun C A x L1 L2 dx s r e st cs sure os0 vs2 (i + 1) δ' os') (tst_eq (tst_cmp c_eqS (ev_ixT (i := 0) (d := .str "hear") (ev_var 5 rfl) ev_int rfl) ev_str) (decide_eq_true rfl)) (fun _ => ?_) (fun h => by cases h) fun δ' os' h => stm_nil h
        refine
        stm_set 7 (d := .tup ((cs.take j' ++ [a]).map Arr.d)) (ev_eq (ev_catT (ev_var 7 rfl) (ev_tup (arg_cons (ev_eq (d := a.d) (ev_cutT (ev_var 5 rfl) (prt_yes ev_int) prt_no) rfl) arg_nil)) (by simp; omega)) (by rw [List.map_append] <;> rfl)) nd <|
        stm_env [some (.adr A), some (bookD s r e), some (.tup (st.map pD)), some (.tup (cs.map Arr.d)), some (.bl sure), some (Evt.hea a).d, some (.adr x), some (.tup ((cs.take j' ++ [a]).map Arr.d)), some (elD (elF s r cs j')), v', y, z, t] rfl <|
        stm_set 9 (d := hrdD (hsOf (cs.take (j' + 1)))) (ev_eq (ev_bt b_tupL E.B.tuple boot_tuple (arg_cons (ev_sortedS (k := 3) (cc := 2000) (B := 10000) rfl E.B.sorted (ev_setOf (xs := (cs.take (j' + 1)).map aL) hr rfl E.B.set (arg_cons (ev_lc0 (own := [("_law_moment", 10), ("_law_k", 11), ("_law_part", 12)]) σ'.ar Arr.d (fun a => tupI (aL a)) (wk_tup (ev_ixT (i := 1) (d := .tup (σ'.ar.map Arr.d)) (ev_prp 2 (ok_run_now V) hr (ev_var 6 rfl) rfl rfl ⟨x, s, r, e, vs.take i ++ [.hea a], ss ++ [σ'], d1 ++ [.bl true], d2 ++ [.bl true], f1.o :: os0, σ', ⟨L1, L2, A :: M0, dx, rfl, rfl⟩, rfl, by simp, rfl, rfl⟩) ev_int rfl)) (blkOk_by (by kernel_rfl)) (fun _ _ _ _ _ _ => (tgt_tup rfl (tgts_cons (tgt_name 10 nd) (tgts_cons (tgt_name 11 nd) (tgts_cons (tgt_name 12 nd) tgts_nil))) (fCons_len (fCons_len (fCons_len fNil_len))))) (fun b hb => ⟨_, rfl, fun L acc s2 H C cl fp => (ev_tup (arg_cons (ev_var 11 rfl) (arg_cons (ev_var 12 rfl) (arg_cons (ev_var 10 rfl) arg_nil))))⟩) (by rw [har', List.length_take]; omega) rfl nd (by rw [har', List.map_map] <;> rfl)) arg_nil) (by rw [List.length_map, List.length_take]; omega)) (by decide) (aL_bd ok (j' + 1))) arg_nil)) (hsOf_d _)) nd <|
        stm_env [some (.adr A), some (bookD s r e), some (.tup (st.map pD)), some (.tup (cs.map Arr.d)), some (.bl sure), some (Evt.hea a).d, some (.adr x), some (.tup ((cs.take j' ++ [a]).map Arr.d)), some (elD (elF s r cs j')), some (hrdD (hsOf (cs.take (j' + 1)))), y, z, t] rfl <|
        stm_set 8 (ev_callG (ok_spans_right E) hgu hr (arg_cons (ev_var 1 rfl) (arg_cons (ev_var 2 rfl) (arg_cons (ev_var 9 rfl) (arg_cons (ev_var 8 rfl) arg_nil)))) ⟨rfl, s, r, e, st, _, _, rfl, ok.sro j' hjl, rfl⟩) nd <|
        stm_env [some (.adr A), some (bookD s r e), some (.tup (st.map pD)), some (.tup (cs.map Arr.d)), some (.bl sure), some (Evt.hea a).d, some (.adr x), some (.tup ((cs.take j' ++ [a]).map Arr.d)), some (elD (newEl s r (hsOf (cs.take (j' + 1))))), some (hrdD (hsOf (cs.take (j' + 1)))), y, z, t] rfl <|
        stm_ifF (tst_eq (tst_w (tsw_or (tst_cmp c_isN (ev_var 8 rfl) ev_non) fun h5 => (tsw_or1 (tst_not (tst_val (ev_callG (ok_mean_right E) hgu hr (arg_cons (ev_var 1 rfl) (arg_cons (ev_var 2 rfl) (arg_cons (ev_var 7 rfl) (arg_cons (ev_var 4 rfl) arg_nil)))) ⟨rfl, s, r, e, st, cs.take j', a, sure, rfl, ok.so, ok.ro, ok.mro j' a h1, rfl⟩)))))) rfl) <|
        stm_nil ⟨vs, rfl, hv, ⟨f1, ss ++ [σ'], d1 ++ [.bl true], d2 ++ [.bl true], σ', some (Evt.hea a).d, some (hrdD (hsOf (cs.take (j' + 1)))), y, z, t, by rw [hts], by simp, hσ', ?_, ?_, by simp; omega, by simp; omega, by simp; omega, ?_⟩⟩
        · rw [hts, nB_snoc, ← ci, ← hσe]
          exact hbg
        · rw [hts, nH_snoc, ← cj]
          exact har'
        · rw [hts, nH_snoc, ← cj, show (if (Evt.hea a).isB = true then 0 else 1) = 1 from rfl, take_snoc h1, show elF s r cs (j' + 1) = newEl s r (hsOf (cs.take (j' + 1))) from rfl, take_snoc h1]
    · rintro ds os1 δ os2 _ ⟨vs, rfl, hv, ⟨f1, ss, d1, d2, σ, u, v', y, z, t, rfl, hss, hσ, hbg, har, l0, l1, l2, rfl⟩⟩
      exact stm_ret ev_bl (hΦ f1) (Drp.refl.cons.cons.cons)
end
end PW
namespace PW
open PySem PySem.Spec PyProof.Rows L2
section
variable {X : Cx} {M : List Addr} {os os1 os2 : List MO} {δ : List (Option D)} {a b c e : Expr} {pos p p2 q2 : Pos} {d : D}
/-- s[:hi], s a list that is only looked at -/
theorem ev_cutLk {A : Addr} {ns : List Int} {hi : Option Expr} {h : Option Int} (ha : Ev X M os δ a (.adr A) os1) (hL : ∀ H, Sok M os1 H → SqL X.K H A (ns.map V.int)) (hh : Prt X M os1 δ hi h os1) : Ev X M os δ (.Subscript a (.Slice none hi none p2) pos) (.lst ((cutD ns none h).map D.int)) os1 :=
  pe_imp (pe_slice sl_list ha prt_no hh) fun σ H Q ⟨s, en, kq⟩ => ⟨s, en, fun v H1 k1 s1 r1 => ⟨s1, en.keep k1, fun H2 k2 s2 => ⟨s2, en.keep (k1.trans k2), fun H3 k3 s3 => by
    cases r1
    refine ⟨A, ns.map V.int, rfl, hL H3 s3, fun p hp => kq _ _ (((k1.trans k2).trans k3).trans (Ext.new hp).keep) (s3.ext (Ext.new hp)) (new_lst s3 hp ?_)⟩
    have e1 : cutV (ns.map V.int) none h = (cutD ns none h).map V.int := by
      rw [← cutD_map]
      rfl
    rw [e1]
    have : ∀ l : List Int, RA M H3 (l.map V.int) (l.map D.int) := by
      intro l
      induction l with
      | nil => exact .nil
      | cons x l ih => exact .cons (.int _) ih
    exact this _⟩⟩⟩
/-- a display of four pairs, the keys texts -/
theorem ev_disp4 {k1 k2 k3 k4 : Str} {v1 v2 v3 v4 : Expr} {d1 d2 d3 d4 : D} {j1 j2 j3 j4} {q1 q2 q3 q4 : Pos} (h1 : ∀ A o, Ev X (A :: M) (o :: os) δ v1 d1 (o :: os)) (h2 : ∀ A o, Ev X (A :: M) (o :: os) δ v2 d2 (o :: os)) (h3 : ∀ A o, Ev X (A :: M) (o :: os) δ v3 d3 (o :: os)) (h4 : ∀ A o, Ev X (A :: M) (o :: os) δ v4 d4 (o :: os)) (nd : ([.inr k1, .inr k2, .inr k3, .inr k4] : List Key).Nodup) :
    Ev X M os δ (.Dict [some (.Constant (.str k1) j1 q1), some (.Constant (.str k2) j2 q2), some (.Constant (.str k3) j3 q3), some (.Constant (.str k4) j4 q4)] [v1, v2, v3, v4] pos) (.dic [.inr k1, .inr k2, .inr k3, .inr k4] [d1, d2, d3, d4]) os := by
  have st : ∀ {k : Str} {j q}, PE X (.Constant (.str k) j q) (fun σ H Q => ∃ A o, tE (A :: M) (o :: os) δ (.str k) (o :: os) σ H Q) := fun {k j q} => ⟨fun pins s σ H Q I ⟨A, o, w⟩ => (ev_str (X := X) (M := A :: M) (os := o :: os) (δ := δ)).run pins s σ H Q I w⟩
  have vv : ∀ {v : Expr} {d : D}, (∀ A o, Ev X (A :: M) (o :: os) δ v d (o :: os)) → PE X v (fun σ H Q => ∃ A o, tE (A :: M) (o :: os) δ d (o :: os) σ H Q) := fun h => ⟨fun pins s σ H Q I ⟨A, o, w⟩ => (h A o).run pins s σ H Q I w⟩
  refine pe_imp (pe_disp (pps_cons st (vv h1) (pps_cons st (vv h2) (pps_cons st (vv h3) (pps_cons st (vv h4) pps_nil)))) rfl rfl (by simp) (by simp)) fun σ H Q ⟨s, en, kq⟩ => fun A hA => ?_
  have eA := Ext.new (o := HO.dK []) hA
  have sA : Sok (A :: M) (.opq (.dK []) :: os) (upd H A (.dK [])) := s.more hA eA upd_same
  have nA : EnvR (A :: M) (upd H A (.dK [])) σ δ := (en.more hA).keep eA.keep
  refine ⟨A, .opq (.dK []), sA, nA, fun x1 H1 c1 s1 r1 => ⟨A, .opq (.dK []), s1, nA.keep c1, fun y1 H2 c2 s2 t1 => ?_⟩⟩
  have n2 := (nA.keep c1).keep c2
  refine ⟨A, .opq (.dK []), s2, n2, fun x2 H3 c3 s3 r2 => ⟨A, .opq (.dK []), s3, n2.keep c3, fun y2 H4 c4 s4 t2 => ?_⟩⟩
  have n4 := (n2.keep c3).keep c4
  refine ⟨A, .opq (.dK []), s4, n4, fun x3 H5 c5 s5 r3 => ⟨A, .opq (.dK []), s5, n4.keep c5, fun y3 H6 c6 s6 t3 => ?_⟩⟩
  have n6 := (n4.keep c5).keep c6
  refine ⟨A, .opq (.dK []), s6, n6, fun x4 H7 c7 s7 r4 => ⟨A, .opq (.dK []), s7, n6.keep c7, fun y4 H8 c8 s8 t4 => ?_⟩⟩
  cases r1
  cases r2
  cases r3
  cases r4
  have h8 : H8 A = some (.dK []) := s8.at_ 0 A _ rfl rfl
  refine ⟨h8, [(.inr k1, y1), (.inr k2, y2), (.inr k3, y3), (.inr k4, y4)], rfl, by simp, ?_⟩
  rw [mergeK_nd (acc := []) (kvs := [(.inr k1, y1), (.inr k2, y2), (.inr k3, y3), (.inr k4, y4)]) nd, List.nil_append]
  have kS : Keep (A :: M) H8 (upd H8 A (.dK [(.inr k1, y1), (.inr k2, y2), (.inr k3, y3), (.inr k4, y4)])) := Keep.set List.mem_cons_self
  have s9 := s8.put (i := 0) (a := A) (o := .opq (.dK [(.inr k1, y1), (.inr k2, y2), (.inr k3, y3), (.inr k4, y4)])) rfl kS (fun b hb _ => upd_ne hb) upd_same
  have k38 := ((((c3.trans c4).trans c5).trans c6).trans c7).trans c8
  refine kq _ _ (Keep.fill hA (((c1.trans c2).trans k38).trans kS)) s9.less (.dic upd_same (not_mem_dom s.dom hA) rfl ?_)
  exact .cons ((t1.keep (k38.trans kS)).less) (.cons ((t2.keep ((((c5.trans c6).trans c7).trans c8).trans kS)).less) (.cons ((t3.keep ((c7.trans c8).trans kS)).less) (.cons ((t4.keep kS).less) .nil)))
end
section
variable {P : Program} {w : World} {K : PySem.W.Frag} {mg : Str → Option Value} {base : Heap}
def feed0 (ns : List Int) : Feed := ⟨cutD ns none (some 63), 0, 0, 0⟩
def c_feed (K : PySem.W.Frag) : Ctr := fun M ds os d os' => ∃ (a : Addr) (ns : List Int), ds = [.adr a] ∧ (∀ (A : List Addr) (o : List MO) H, Sok (A ++ M) (o ++ os) H → A.length = o.length → SqL K H a (ns.map V.int)) ∧ d = .dic KF (feed0 ns).l ∧ os' = os
theorem ok_feed (E : Env1 K mg) : Cl P w K mg base 1 "_law_feed" (c_feed K) := by
  have nd : (["_law_script", "_law_cell"] : List Str).Nodup := by decide +kernel
  refine cl_ok (N := ["_law_script", "_law_cell"]) (ps := ["_law_script"]) (E.T.at 54) ⟨rfl, rfl, rfl, nd, rfl, by decide +kernel, by decide +kernel⟩ (fun _ _ _ _ _ _ us hl => match us, hl with | [_], _ => rfl) ?_ ?_
  · rintro M ds os d os1 ⟨a, ns, rfl, _⟩
    rfl
  · rintro f cdv A outer sh H E0 hr M ds os d os1 ⟨a, ns, rfl, hS, rfl, rfl⟩
    have hlen : (cutD ns none (some 63)).length ≤ 63 := by
      have e1 : cutD ns none (some 63) = ns.take 63 := cutD_to ns 63
      rw [e1, List.length_take]
      omega
    exact stm_ret (ev_disp4 (fun A o => ev_lc0 (own := [("_law_cell", 1)]) (cutD ns none (some 63)) D.int D.int (wk_lst (ev_cutLk (ev_var 0 rfl) (fun H s => hS [A] [o] H s rfl) (prt_yes ev_int))) (blkOk_by (by kernel_rfl)) (fun _ _ _ _ _ _ => (tgt_name 1 nd)) (fun x hx => ⟨_, rfl, fun L acc s2 H C cl fp => (ev_bt b_intI E.B.int boot_int (arg_cons (ev_var 1 rfl) arg_nil))⟩) (by omega) rfl nd) (fun A o => ev_int) (fun A o => ev_int) (fun A o => ev_int) nKF) ⟨rfl, rfl⟩
end
end PW
namespace PW
open PySem PySem.Spec PyProof.Rows L2
mutual
/-- no table within -/
def noD : D → Bool
  | .tup ds => noDA ds
  | .lst ds => noDA ds
  | .dic _ _ => false
  | _ => true
def noDA : List D → Bool
  | [] => true
  | d :: ds => noD d && noDA ds
end
mutual
theorem R.noT {M : List Addr} {H : Hp} {A : Addr} {kvs : List (Key × V)} (hA : H A = some (.dK kvs)) : ∀ {v : V} {d : D}, noD d = true → R M H v d → R (A :: M) H v d
  | _, _, _, .non => .non
  | _, _, _, .bl b => .bl b
  | _, _, _, .int i => .int i
  | _, _, _, .str x => .str x
  | _, _, _, .adr a => .adr a
  | _, _, _, .ty n => .ty n
  | _, _, h, .tup (a := a) h1 n r => .tup h1 (fun z => by
      rcases List.mem_cons.mp z with z | z
      · subst z
        rw [hA] at h1
        cases h1
      · exact n z) (RA.noT hA (by simpa [noD] using h) r)
  | _, _, h, .lst (a := a) h1 n r => .lst h1 (fun z => by
      rcases List.mem_cons.mp z with z | z
      · subst z
        rw [hA] at h1
        cases h1
      · exact n z) (RA.noT hA (by simpa [noD] using h) r)
  | _, _, h, .dic _ _ _ _ => by simp [noD] at h
theorem RA.noT {M : List Addr} {H : Hp} {A : Addr} {kvs : List (Key × V)} (hA : H A = some (.dK kvs)) : ∀ {vs : List V} {ds : List D}, noDA ds = true → RA M H vs ds → RA (A :: M) H vs ds
  | _, _, _, .nil => .nil
  | _, _, h, .cons r t => by
    simp only [noDA, Bool.and_eq_true] at h
    exact .cons (R.noT hA h.1 r) (RA.noT hA h.2 t)
end
/-- at the law's end nothing of the heap matters -/
def tLw (M : List Addr) (os : List MO) (δ : List (Option D)) : TS := fun Dn σ H => Sok M os H ∧ EnvR M H σ δ ∧ ∀ H', Dn.rt (.bl true) H'
section
variable {X : Cx} {M : List Addr} {os os1 os2 : List MO} {δ : List (Option D)} {a b c e : Expr} {pos p p2 q2 : Pos} {d : D} {rest : List Stmt}
theorem lw_of {sts : List Stmt} (h : Stm X M os δ sts ⟨M, M, fun _ _ => False, fun d _ => d = .bl true⟩) : PSs X sts (tLw M os δ) := pss_imp h fun Dn σ H ⟨s, en, r⟩ => ⟨s, en, fun _ _ _ _ _ _ _ w => w.elim, fun v d H' os' _ _ rd e => by
  subst e
  cases rd
  exact r H'⟩
theorem lw_thaw (i : Nat) {x : Str} {py : Pos} {ks : List Key} {ds : List D} (he : Ev X M os δ e (.dic ks ds) os) (hN : X.N.Nodup) (hr : ∀ A, PSs X rest (tLw (A :: M) (.dic ks ds :: os) (δ.set i (some (.adr A))))) (hds : noDA ds = true) (hδ : ∀ (j : Nat) d, δ[j]? = some (some d) → noD d = true) (hos : ∀ o ∈ os, ∃ u, o = .opq u)
    (hi : X.N[i]? = some x := by rfl) (hx : Loc X.env.scope x := by first | exact Or.inl rfl | exact Or.inr rfl)
    (hs : swapsWith e (some (.Name x py)) pos.line X.env = pure false := by rfl) (hf : X.fn x = true ∨ X.env.scope.names.lookup x = some .local := by first | exact .inl rfl | exact .inr rfl) : PSs X (.Assign [.Name x py] e pos :: rest) (tLw M os δ) := by
  have hrest : PSs X rest (fun Dn σ H => ∃ A, tLw (A :: M) (.dic ks ds :: os) (δ.set i (some (.adr A))) Dn σ H) := ⟨fun pins s σ H Dn I ⟨A, w⟩ => (hr A).run pins s σ H Dn I w⟩
  refine pss_imp (pss_cons (ps_set hN hi hx he hs hf) hrest) fun Dn σ H ⟨s, en, r⟩ => ⟨s, en, fun v H1 k1 s1 r1 => ?_⟩
  cases r1 with
  | @dic A kvs _ _ h1 hm hk hx =>
    refine ⟨A, ⟨by simp [s1.len], List.nodup_cons.mpr ⟨hm, s1.nd⟩, fun j b o hb ho => ?_⟩, ?_, r⟩
    · cases j with
      | zero =>
        cases hb
        cases ho
        exact ⟨kvs, h1, hk, hx.noT h1 hds⟩
      | succ j =>
        have hb' : M[j]? = some b := by simpa using hb
        have ho' : os[j]? = some o := by simpa using ho
        have q := s1.at_ j b o hb' ho'
        obtain ⟨u, rfl⟩ := hos o (List.mem_of_getElem? ho')
        exact q
    · have e1 := en.keep k1
      have e2 : EnvR (A :: M) H1 σ δ := ⟨e1.len, fun j d h => by
        obtain ⟨v, g1, g2⟩ := e1.at_ j d h
        exact ⟨v, g1, g2.noT h1 (hδ j d h)⟩⟩
      exact e2.set i (.adr A)
end
end PW
namespace PW
open PySem PySem.Spec PyProof.Rows L2
def spF (cs : List Arr) : Int := match cs.getLast?, cs.head? with
  | some z, some a => z.m - a.m
  | _, _ => 0
def sureS (s : Snd) (m : Int) : Snd := ⟨s.a, s.b, s.n, s.c, m⟩
def sureSt (st : List (Int × Int)) (m : Int) : List (Int × Int) := (List.range st.length).map fun k : Nat => ((st.getD k (0, 0)).1, ((st.getD 0 (0, 0)).2 + (k : Int)) % m)
/-- what the plain law must give -/
structure Plain : Prop where
  sp : ∀ (v : Vol) st cs, v.Ok → StOk v.s st → CmsOk v.s v.r st cs → 0 ≤ spF (cs.take 10) ∧ spF (cs.take 10) ≤ 1000
  no : ∀ (v : Vol) st cs, v.Ok → StOk v.s st → CmsOk v.s v.r st cs → RunOk v.s v.r v.e st (cs.take 10) false
  su : ∀ (v : Vol) st cs (x : Int), v.Ok → StOk v.s st → CmsOk v.s v.r st cs → 0 ≤ x → 1 ≤ sureF v.s v.r (spF (cs.take 10)) + x ∧ RunOk (sureS v.s (sureF v.s v.r (spF (cs.take 10)) + x)) v.r v.e (sureSt st (sureF v.s v.r (spF (cs.take 10)) + x)) (cs.take 10) true
section
variable {P : Program} {w : World} {K : PySem.W.Frag} {mg : Str → Option Value} {base : Heap} {C : Addr}
def spLaw (K : PySem.W.Frag) : Sp := fun vs H Q _ => ∃ (a : Addr) (ns : List Int), vs = [.ref a] ∧ Only H ∧ SqL K H a (ns.map V.int) ∧ ∀ H', Q (.bl true) H'
theorem law_body (E : Env1 K mg) (VL : LvC K mg C) (pl : Plain) {fa : Addr} {cdv : Value} {Ar : Around} {outer : List Env} {sh : Shared} {H : Hp} {E0 : XK} (hr : Room 10 (Ar.deeper (envOfC "law" (defScope (top 97)) sh.heap.objs.size fa cdv))) (hgu : Ar.guards = some [])
    {M : List Addr} {os : List MO} {a : Addr} {ns : List Int} (hos : ∀ o ∈ os, ∃ u, o = .opq u) (hS : ∀ (A : List Addr) (o : List MO) H, Sok (A ++ M) (o ++ os) H → A.length = o.length → SqL K H a (ns.map V.int)) :
    PSs (cxOf C8.CX0 P w K mg base ["_law_script", "_law_feed_here", "_law_volume_here", "_law_front", "_law_starts_here", "_law_comings_here", "_law_space", "_law_is_sure", "_law_names", "_law_k"] "law" (defScope (top 97)) fa cdv Ar outer sh H E0).nox (defBody (top 97)) (tLw M os [some (.adr a), none, none, none, none, none, none, none, none, none]) := by
  have nd : (["_law_script", "_law_feed_here", "_law_volume_here", "_law_front", "_law_starts_here", "_law_comings_here", "_law_space", "_law_is_sure", "_law_names", "_law_k"] : List Str).Nodup := by decide +kernel
  refine lw_thaw 1 (ev_call (ok_feed E) hr (arg_cons (ev_var 0 rfl) arg_nil) ⟨a, ns, rfl, hS, rfl, rfl⟩) nd (fun A => lw_of ?_) ?_ (fun j d hj => ?_) hos
  · refine
    stm_os ((feed0 ns).o :: os) rfl <|
    stm_env [some (.adr a), some (.adr A), none, none, none, none, none, none, none, none] rfl <|
    stm_setX 2 (evX_call (fun d os' => ∃ (v : Vol) (f' : Feed), v.Ok ∧ d = v.d ∧ os' = f'.o :: os) (ok_volume E) hr (arg_cons (ev_var 1 rfl) arg_nil) ⟨A, M, feed0 ns, os, rfl, rfl, rfl, fun v f' h => ⟨v, f', h, rfl, rfl⟩⟩) nd ?_
    rintro d os' ⟨v, f1, vo, rfl, rfl⟩
    refine
    stm_set 3 (d := v.s.d) (ev_eq (ev_catT (ds := [.int v.s.a, .int v.s.b, .int v.s.n, .int v.s.c, .int v.s.m]) (es := [.non]) (ev_eq (ev_cutT (ev_ixT (i := 0) (d := v.s.ds v.stop) (ev_var 2 rfl) ev_int rfl) prt_no (prt_yes ev_int)) rfl) (ev_tup (arg_cons ev_non arg_nil))) rfl) nd <|
    stm_env [some (.adr a), some (.adr A), some v.d, some v.s.d, none, none, none, none, none, none] rfl <|
    stm_setX 4 (evX_call (fun d os' => ∃ (st : List (Int × Int)) (f' : Feed), StOk v.s st ∧ d = .tup (st.map pD) ∧ os' = f'.o :: os) (ok_starts E) hr (arg_cons (ev_var 1 rfl) (arg_cons (ev_eq (d := bookD v.s v.r v.e) (ev_catT (ds := [v.s.d]) (es := [v.r.d, v.e.d]) (ev_tup (arg_cons (ev_var 3 rfl) arg_nil)) (ev_eq (ev_cutT (ev_var 2 rfl) (prt_yes ev_int) prt_no) rfl)) rfl) (arg_cons ev_int arg_nil))) ⟨A, M, f1, os, v.s, v.r, v.e, rfl, rfl, rfl, vo.so, by have := vo.m2; omega, fun st f' h => ⟨st, f', h, rfl, rfl⟩⟩) nd ?_
    rintro d os' ⟨st, f2, so, rfl, rfl⟩
    refine
    stm_env [some (.adr a), some (.adr A), some v.d, some v.s.d, some (.tup (st.map pD)), none, none, none, none, none] rfl <|
    stm_setX 5 (evX_cutT (l := none) (h := some 10) (evX_call (fun d os' => ∃ (cs : List Arr) (f' : Feed), CmsOk v.s v.r st cs ∧ d = .tup (cs.map Arr.d) ∧ os' = f'.o :: os) (ok_comings E) hr (arg_cons (ev_var 1 rfl) (arg_cons (ev_var 2 rfl) (arg_cons (ev_var 4 rfl) (arg_cons ev_int arg_nil)))) ⟨A, M, f2, os, v.s, v.stop, v.r, v.e, st, rfl, rfl, rfl, vo.so, vo.ro, vo.n2, vo.c2, so.len, so.bd vo.a1 vo.b2, fun cs f' h => ⟨cs, f', h, rfl, rfl⟩⟩) (fun d os' ⟨cs, f', h, e, _⟩ => ⟨_, e⟩) (fun os' => prt_yes ev_int)) nd ?_
    rintro d os' ⟨ds, ⟨cs, f3, co, e1, rfl⟩, rfl⟩
    cases e1
    have ec : cutD (cs.map Arr.d) none (some 10) = (cs.take 10).map Arr.d := by rw [cutD_map]; exact congrArg (List.map Arr.d) (cutD_to cs 10)
    rw [ec]
    obtain ⟨g0, g1⟩ := pl.sp v st cs vo so co
    have hno := pl.no v st cs vo so co
    have hsu := fun x hx => pl.su v st cs x vo so co hx
    have hl10 : (cs.take 10).length ≤ 10 := by rw [List.length_take]; omega
    generalize cs.take 10 = ct at *
    refine
    stm_env [some (.adr a), some (.adr A), some v.d, some v.s.d, some (.tup (st.map pD)), some (.tup (ct.map Arr.d)), none, none, none, none] rfl <|
    stm_set 6 (d := .int (spF ct)) (ev_if (tst_eq (tst_cmp (c_neD (n := 4) hr (okAr _) rfl) (ev_var 5 rfl) (ev_tup arg_nil)) (congrArg (fun b => !b) (eqD_nilT _))) (fun h1 => ?_) (fun h2 => ev_eq ev_int ?_)) nd <|
    stm_set 7 (ev_cmp c_eqI (ev_call (ok_draw E) hr (arg_cons (ev_var 1 rfl) (arg_cons ev_int arg_nil)) ⟨A, 0, f3, 2, rfl, rfl, rfl, by decide, by decide, rfl, rfl⟩) ev_int) nd ?_
    · cases hq : ct.getLast? with
      | none =>
        rw [List.getLast?_eq_none_iff.mp hq] at h1
        cases h1
      | some z =>
        cases hc : ct with
        | nil =>
          rw [hc] at hq
          cases hq
        | cons y ys =>
          have hat : atI ((y :: ys).map Arr.d) (-1) = some z.d := atI_lastX (by rw [List.getLast?_map, ← hc, hq] <;> rfl)
          refine ev_eq (ev_sub (ev_ixT (i := 0) (ev_ixT (ev_var 5 rfl) (ev_neg ev_int) hat) ev_int rfl) (ev_ixT (i := 0) (d := .int y.m) (ev_ixT (i := ((0 : Nat) : Int)) (d := y.d) (ev_var 5 rfl) ev_int (atI_nat (j := 0) rfl)) ev_int rfl)) ?_
          unfold spF
          rw [← hc, hq, hc]
          rfl
    · have : ct = [] := by
        cases hc : ct with
        | nil => rfl
        | cons y ys =>
          rw [hc] at h2
          cases h2
      rw [this]
      rfl
    · generalize hz : decide ((drawF f3 2).1 = 0) = z
      generalize (drawF f3 2).2 = f4
      refine
      stm_os (f4.o :: os) rfl <|
      stm_env [some (.adr a), some (.adr A), some v.d, some v.s.d, some (.tup (st.map pD)), some (.tup (ct.map Arr.d)), some (.int (spF ct)), some (.bl z), none, none] rfl ?_
      cases z with
      | false =>
        refine stm_ifF (tst_val (ev_var 7 rfl)) <|
        stm_retX (evX_callG (fun d os' => d = .bl true) (ok_run_right E VL) hgu hr (arg_cons (ev_var 1 rfl) (arg_cons (ev_eq (d := bookD v.s v.r v.e) (ev_catT (ds := [v.s.d]) (es := [v.r.d, v.e.d]) (ev_tup (arg_cons (ev_var 3 rfl) arg_nil)) (ev_eq (ev_cutT (ev_var 2 rfl) (prt_yes ev_int) prt_no) rfl)) rfl) (arg_cons (ev_var 4 rfl) (arg_cons (ev_var 5 rfl) (arg_cons (ev_var 7 rfl) arg_nil))))) ⟨A, M, f4, os, v.s, v.r, v.e, st, ct, false, rfl, rfl, rfl, hno, fun f' => rfl⟩) (fun d os' h => h) rfl
      | true =>
        obtain ⟨x0, x1⟩ := draw_bd (f := f4) (lim := 2) (by decide)
        obtain ⟨hn1, hrun⟩ := hsu (drawF f4 2).1 x0
        generalize hm : sureF v.s v.r (spF ct) + (drawF f4 2).1 = m at *
        refine stm_if (bl := true) (fun δ' os' => os' = (drawF f4 2).2.o :: os ∧ δ' = [some (.adr a), some (.adr A), some v.d, some (sureS v.s m).d, some (.tup ((sureSt st m).map pD)), some (.tup (ct.map Arr.d)), some (.int (spF ct)), some (.bl true), some (.int m), none]) (tst_val (ev_var 7 rfl)) (fun _ => ?_) (fun h => by cases h) (fun δ' os' h => ?_)
        · refine
          stm_set 8 (ev_eq (d := .int m) (ev_add (ev_callP (ok_sure_numbers E) hr (arg_cons (ev_var 3 rfl) (arg_cons (ev_ixT (i := 1) (d := v.r.d) (ev_var 2 rfl) ev_int rfl) (arg_cons (ev_var 6 rfl) arg_nil))) ⟨v.s, v.r, spF ct, rfl, vo.so, vo.ro, g0, g1, rfl⟩) (ev_call (ok_draw E) hr (arg_cons (ev_var 1 rfl) (arg_cons ev_int arg_nil)) ⟨A, 0, f4, 2, rfl, rfl, rfl, by decide, by decide, rfl, rfl⟩)) (by rw [hm])) nd <|
          stm_set 3 (d := (sureS v.s m).d) (ev_eq (ev_catT (ds := [.int v.s.a, .int v.s.b, .int v.s.n, .int v.s.c]) (es := [.int m, .non]) (ev_eq (ev_cutT (ev_var 3 rfl) prt_no (prt_yes ev_int)) rfl) (ev_tup (arg_cons (ev_var 8 rfl) (arg_cons ev_non arg_nil)))) rfl) nd <|
          stm_env [some (.adr a), some (.adr A), some v.d, some (sureS v.s m).d, some (.tup (st.map pD)), some (.tup (ct.map Arr.d)), some (.int (spF ct)), some (.bl true), some (.int m), none] rfl <|
          stm_set 4 (d := .tup ((sureSt st m).map pD)) (ev_bt b_tupL E.B.tuple boot_tuple (arg_cons (ev_lc0 (own := [("_law_k", 9)]) (List.range st.length) (fun k : Nat => .int (0 + (k : Int))) (fun k : Nat => pD ((st.getD k (0, 0)).1, ((st.getD 0 (0, 0)).2 + (k : Int)) % m)) ?_ (blkOk_by (by kernel_rfl)) (fun _ _ _ _ _ _ => (tgt_name 9 nd)) (fun k hk => ⟨_, rfl, fun L acc s2 H C cl fp => ?_⟩) (by rw [List.length_range]; have := so.len; omega) rfl nd ?_) arg_nil)) nd <|
          stm_nil ⟨rfl, rfl⟩
          · rw [show (List.range st.length).map (fun k : Nat => D.int (0 + (k : Int))) = rngD 0 (((st.map pD).length : Nat) : Int).toNat by
              unfold rngD
              rw [List.length_map, Int.toNat_natCast]]
            exact wk_rng1 E.B.range (arg_cons (ev_bi b_lenT E.B.len boot_len (arg_cons (ev_var 4 rfl) arg_nil)) arg_nil) (by rw [List.length_map]; have := so.len; omega)
          · have hk' := List.mem_range.mp hk
            have z0 : 0 < st.length := by omega
            rw [Int.zero_add]
            exact ev_tup (arg_cons (ev_ixT (ev_ixT (ev_var 4 rfl) (ev_var 9 rfl) (pD_at hk')) ev_int rfl) (arg_cons (ev_mod (ev_bt b_intI E.B.int boot_int (arg_cons (ev_add (ev_ixT (i := 1) (ev_ixT (i := ((0 : Nat) : Int)) (ev_var 4 rfl) ev_int (pD_at z0)) ev_int rfl) (ev_var 9 rfl)) arg_nil)) (ev_var 8 rfl) (by omega)) arg_nil))
          · unfold sureSt
            rw [List.map_map] <;> rfl
        · obtain ⟨rfl, rfl⟩ := h
          exact stm_retX (evX_callG (fun d os' => d = .bl true) (ok_run_right E VL) hgu hr (arg_cons (ev_var 1 rfl) (arg_cons (ev_eq (d := bookD (sureS v.s m) v.r v.e) (ev_catT (ds := [(sureS v.s m).d]) (es := [v.r.d, v.e.d]) (ev_tup (arg_cons (ev_var 3 rfl) arg_nil)) (ev_eq (ev_cutT (ev_var 2 rfl) (prt_yes ev_int) prt_no) rfl)) rfl) (arg_cons (ev_var 4 rfl) (arg_cons (ev_var 5 rfl) (arg_cons (ev_var 7 rfl) arg_nil))))) ⟨A, M, (drawF f4 2).2, os, sureS v.s m, v.r, v.e, sureSt st m, ct, true, rfl, rfl, rfl, hrun, fun f' => rfl⟩) (fun d os' h => h) rfl
  · simp only [Feed.l, feed0, noDA, noD, Bool.and_true]
    generalize cutD ns none (some 63) = l
    induction l with
    | nil => rfl
    | cons x l ih =>
      rw [List.map_cons, noDA, ih]
      rfl
  · match j, hj with
    | 0, hj => cases hj; rfl
    | 1, hj => cases hj
    | 2, hj => cases hj
    | 3, hj => cases hj
    | 4, hj => cases hj
    | 5, hj => cases hj
    | 6, hj => cases hj
    | 7, hj => cases hj
    | 8, hj => cases hj
    | 9, hj => cases hj
    | n + 10, hj => cases hj
end
end PW
namespace PW
open PySem PySem.Spec PyProof.Rows L2
/-! ### the plain law: the true run -/
/-- the true beginnings: T t, t < n -/
structure TOk (s : Snd) (T : Int → Int) (n : Int) : Prop where
  step : ∀ t, 0 ≤ t → t + 1 < n → s.a ≤ T (t + 1) - T t ∧ T (t + 1) - T t ≤ s.b
theorem TOk.up {s : Snd} {T : Int → Int} {n : Int} (h : TOk s T n) (t : Int) (t0 : 0 ≤ t) : ∀ k : Nat, t + k < n → (k : Int) * s.a ≤ T (t + k) - T t ∧ T (t + k) - T t ≤ (k : Int) * s.b
  | 0, _ => by simp
  | k + 1, hk => by
    have ih := TOk.up h t t0 k (by omega)
    have st := h.step (t + k) (by omega) (by omega)
    have e : t + ((k + 1 : Nat) : Int) = t + (k : Int) + 1 := by omega
    have e2 : ((k + 1 : Nat) : Int) = (k : Int) + 1 := by omega
    rw [e, e2, Int.add_mul, Int.add_mul, Int.one_mul, Int.one_mul]
    omega
theorem TOk.bd {s : Snd} {T : Int → Int} {n : Int} (h : TOk s T n) {t u : Int} (t0 : 0 ≤ t) (t1 : t < n) (u0 : 0 ≤ u) (u1 : u < n) :
    (0 ≤ u - t → (u - t) * s.a ≤ T u - T t ∧ T u - T t ≤ (u - t) * s.b) ∧ (u - t ≤ 0 → (u - t) * s.b ≤ T u - T t ∧ T u - T t ≤ (u - t) * s.a) := by
  refine ⟨fun hh => ?_, fun hh => ?_⟩
  · have := h.up t t0 (u - t).toNat (by omega)
    have e : (((u - t).toNat : Nat) : Int) = u - t := by omega
    rw [e, show t + (u - t) = u by omega] at this
    exact this
  · have := h.up u u0 (t - u).toNat (by omega)
    have e : (((t - u).toNat : Nat) : Int) = t - u := by omega
    rw [e, show u + (t - u) = t by omega] at this
    have e1 : (u - t) * s.a = -((t - u) * s.a) := by rw [← Int.neg_mul]; congr 1; omega
    have e2 : (u - t) * s.b = -((t - u) * s.b) := by rw [← Int.neg_mul]; congr 1; omega
    omega
/-- each that was heard came from the true run -/
structure HT1 (s : Snd) (r : Roa) (T : Int → Int) (n : Int) (h : Hrd) : Prop where
  t0 : 0 ≤ h.t
  t1 : h.t < n
  lo : T h.t + r.p ≤ h.m
  hi : h.m ≤ T h.t + r.p + r.q
theorem lowF_le {s : Snd} {r : Roa} {T : Int → Int} {n : Int} (ok : TOk s T n) {h : Hrd} (hh : HT1 s r T n h) {t : Int} (t0 : 0 ≤ t) (t1 : t < n) : lowF s r h t ≤ T t ∧ T t ≤ highF s r h t := by
  obtain ⟨h1, h2⟩ := ok.bd hh.t0 hh.t1 t0 t1
  have a1 := hh.lo
  have a2 := hh.hi
  unfold lowF highF
  by_cases c : 0 ≤ t - h.t
  · rw [if_pos c, if_pos c]
    have := h1 c
    omega
  · rw [if_neg c, if_neg c]
    have := h2 (by omega)
    omega
theorem lowF_step {s : Snd} {r : Roa} (ab : s.a ≤ s.b) (h : Hrd) (t : Int) : (s.a ≤ lowF s r h (t + 1) - lowF s r h t ∧ lowF s r h (t + 1) - lowF s r h t ≤ s.b) ∧ s.a ≤ highF s r h (t + 1) - highF s r h t ∧ highF s r h (t + 1) - highF s r h t ≤ s.b := by
  unfold lowF highF
  have e : t + 1 - h.t = (t - h.t) + 1 := by omega
  rw [e]
  generalize t - h.t = d
  by_cases c : 0 ≤ d
  · rw [if_pos c, if_pos c, if_pos (by omega), if_pos (by omega), Int.add_mul, Int.add_mul, Int.one_mul, Int.one_mul]
    omega
  · rw [if_neg c, if_neg c]
    by_cases c2 : 0 ≤ d + 1
    · have : d = -1 := by omega
      subst this
      rw [if_pos c2, if_pos c2]
      omega
    · rw [if_neg c2, if_neg c2, Int.add_mul, Int.add_mul, Int.one_mul, Int.one_mul]
      omega
theorem low_ge {s : Snd} {r : Roa} {hs : List Hrd} {h : Hrd} (hh : h ∈ hs) (t : Int) : lowF s r h t ≤ lowT s r hs t ∧ highT s r hs t ≤ highF s r h t := ⟨maxL_le (List.mem_map.mpr ⟨h, hh, rfl⟩), minL_le (List.mem_map.mpr ⟨h, hh, rfl⟩)⟩
theorem low_eq {s : Snd} {r : Roa} {hs : List Hrd} (ne : hs ≠ []) (t : Int) : (∃ h ∈ hs, lowT s r hs t = lowF s r h t) ∧ ∃ h ∈ hs, highT s r hs t = highF s r h t := by
  have n1 : hs.map (fun h => lowF s r h t) ≠ [] := by simpa using ne
  have n2 : hs.map (fun h => highF s r h t) ≠ [] := by simpa using ne
  obtain ⟨h, h1, h2⟩ := List.mem_map.mp (maxL_mem n1)
  obtain ⟨g, g1, g2⟩ := List.mem_map.mp (minL_mem n2)
  exact ⟨⟨h, h1, h2.symm⟩, ⟨g, g1, g2.symm⟩⟩
theorem sp_pace {s : Snd} {r : Roa} {hs : List Hrd} (ab : s.a ≤ s.b) (ne : hs ≠ []) (t : Int) : (s.a ≤ lowT s r hs (t + 1) - lowT s r hs t ∧ lowT s r hs (t + 1) - lowT s r hs t ≤ s.b) ∧ s.a ≤ highT s r hs (t + 1) - highT s r hs t ∧ highT s r hs (t + 1) - highT s r hs t ≤ s.b := by
  obtain ⟨⟨x, x1, x2⟩, y, y1, y2⟩ := low_eq (s := s) (r := r) ne t
  obtain ⟨⟨z, z1, z2⟩, u, u1, u2⟩ := low_eq (s := s) (r := r) ne (t + 1)
  have a1 := lowF_step (r := r) ab x t
  have a2 := lowF_step (r := r) ab y t
  have a3 := lowF_step (r := r) ab z t
  have a4 := lowF_step (r := r) ab u t
  have b1 := low_ge (s := s) (r := r) x1 (t + 1)
  have b2 := low_ge (s := s) (r := r) y1 (t + 1)
  have b3 := low_ge (s := s) (r := r) z1 t
  have b4 := low_ge (s := s) (r := r) u1 t
  omega
theorem sp_true {s : Snd} {r : Roa} {T : Int → Int} {n : Int} {hs : List Hrd} (ok : TOk s T n) (hh : ∀ h ∈ hs, HT1 s r T n h) (ne : hs ≠ []) {t : Int} (t0 : 0 ≤ t) (t1 : t < n) : lowT s r hs t ≤ T t ∧ T t ≤ highT s r hs t := by
  obtain ⟨⟨x, x1, x2⟩, y, y1, y2⟩ := low_eq (s := s) (r := r) ne t
  have a1 := lowF_le ok (hh x x1) t0 t1
  have a2 := lowF_le ok (hh y y1) t0 t1
  omega
theorem sp_arr {s : Snd} {r : Roa} {T : Int → Int} {n : Int} {hs : List Hrd} (ok : TOk s T n) (hh : ∀ h ∈ hs, HT1 s r T n h) {h : Hrd} (hm : h ∈ hs) : (r.p ≤ h.m - lowT s r hs h.t ∧ h.m - lowT s r hs h.t ≤ r.p + r.q) ∧ r.p ≤ h.m - highT s r hs h.t ∧ h.m - highT s r hs h.t ≤ r.p + r.q := by
  have q := hh h hm
  have a1 := sp_true ok hh (List.ne_nil_of_mem hm) q.t0 q.t1
  have a2 := low_ge (s := s) (r := r) hm h.t
  have a3 := q.lo
  have a4 := q.hi
  have e1 : lowF s r h h.t = h.m - r.p - r.q := by unfold lowF; simp
  have e2 : highF s r h h.t = h.m - r.p := by unfold highF; simp
  rw [e1, e2] at a2
  omega
theorem sp_shut {s : Snd} {r : Roa} {T : Int → Int} {n : Int} {x y : Hrd} (ok : TOk s T n) (hx : HT1 s r T n x) (hy : HT1 s r T n y) : shutF s r x y = false := by
  have a1 := lowF_le ok hx hy.t0 hy.t1
  have a2 := hy.lo
  have a3 := hy.hi
  unfold shutF
  rw [decide_eq_false (by omega), decide_eq_false (by omega)]
  rfl
theorem sp_mono {s : Snd} {r : Roa} {hs gs : List Hrd} (ne : hs ≠ []) (sub : ∀ h ∈ hs, h ∈ gs) (t : Int) : lowT s r hs t ≤ lowT s r gs t ∧ highT s r gs t ≤ highT s r hs t := by
  obtain ⟨⟨x, x1, x2⟩, y, y1, y2⟩ := low_eq (s := s) (r := r) ne t
  have a1 := low_ge (s := s) (r := r) (sub x x1) t
  have a2 := low_ge (s := s) (r := r) (sub y y1) t
  omega
theorem sp_bd {s : Snd} {r : Roa} {T : Int → Int} {n : Int} {hs : List Hrd} (so : s.Ok) (ro : r.Ok) (n1 : n ≤ 100) (hm : ∀ h ∈ hs, HT1 s r T n h ∧ -1000 ≤ h.m ∧ h.m ≤ 1000) (ne : hs ≠ []) {t : Int} (t0 : 0 ≤ t) (t1 : t < n) : (-1000000 ≤ lowT s r hs t ∧ lowT s r hs t ≤ 1000000) ∧ -1000000 ≤ highT s r hs t ∧ highT s r hs t ≤ 1000000 := by
  have a1 := so.a1
  have a2 := so.a2
  have b1 := so.b1
  have b2 := so.b2
  have p1 := ro.p1
  have p2 := ro.p2
  have q1 := ro.q1
  have q2 := ro.q2
  have gen : ∀ h ∈ hs, (-1000000 ≤ lowF s r h t ∧ lowF s r h t ≤ 1000000) ∧ -1000000 ≤ highF s r h t ∧ highF s r h t ≤ 1000000 := fun h hh => by
    obtain ⟨h1, h2, h3⟩ := hm h hh
    have h4 := h1.t0
    have h5 := h1.t1
    have mul : ∀ c : Int, 1 ≤ c → c ≤ 10 → -1000 ≤ (t - h.t) * c ∧ (t - h.t) * c ≤ 1000 := fun c c1 c2 => by
      have e1 : (t - h.t) * c ≤ 100 * c := Int.mul_le_mul_of_nonneg_right (by omega) (by omega)
      have e2 : -100 * c ≤ (t - h.t) * c := Int.mul_le_mul_of_nonneg_right (by omega) (by omega)
      omega
    have m1 := mul s.a a1 a2
    have m2 := mul s.b (by omega) b2
    unfold lowF highF
    split <;> omega
  obtain ⟨⟨x, x1, x2⟩, y, y1, y2⟩ := low_eq (s := s) (r := r) ne t
  have g1 := gen x x1
  have g2 := gen y y1
  omega
end PW
namespace PW
open PySem PySem.Spec PyProof.Rows L2
/-! ### the plain law: what was heard, sorted -/
theorem dd_sub : ∀ xs : List (List Int), (dd xs).Sublist xs
  | [] => List.Sublist.slnil
  | x :: xs => by
    unfold dd
    split
    · exact (dd_sub xs).cons x
    · exact (dd_sub xs).cons₂ x
structure HsOk (s : Snd) (r : Roa) (st : List (Int × Int)) (as : List Arr) : Prop where
  so : s.Ok
  ro : r.Ok
  ne : as ≠ []
  len : as.length ≤ 60
  ok : ∀ c ∈ as, AOk s r st c.m c.t c.p
  bd : ∀ c ∈ as, -1000 ≤ c.m ∧ c.m ≤ 1000
  cp : ∀ t q : Nat, ((as.countP fun c => decide (c.t = t ∧ c.p = q) : Nat) : Int) ≤ s.c
  sl : st.length ≤ 5
def aH (a : Arr) : Hrd := ⟨(a.t : Int), (a.p : Int), a.m⟩
theorem toH_aL (a : Arr) : toH (aL a) = aH a := rfl
theorem hsOf_mem {as : List Arr} {h : Hrd} : h ∈ hsOf as ↔ ∃ a ∈ as, h = aH a := by
  unfold hsOf
  rw [List.mem_map]
  constructor
  · rintro ⟨x, hx, rfl⟩
    obtain ⟨a, ha, rfl⟩ := List.mem_map.mp (dd_mem.mp (lsort_mem.mp hx))
    exact ⟨a, ha, rfl⟩
  · rintro ⟨a, ha, rfl⟩
    exact ⟨aL a, lsort_mem.mpr (dd_mem.mpr (List.mem_map.mpr ⟨a, ha, rfl⟩)), rfl⟩
theorem lex_strict : ∀ {xs ys : List Int}, xs.length = ys.length → HT.lexLt ys xs = false → xs ≠ ys → HT.lexLt xs ys = true
  | [], [], _, _, h => absurd rfl h
  | x :: xs, y :: ys, hl, h1, h2 => by
    rw [HT.lexLt_cons] at h1 ⊢
    by_cases e : x = y
    · subst e
      rw [if_pos rfl] at h1 ⊢
      exact lex_strict (by simpa using hl) h1 fun z => h2 (by rw [z])
    · rw [if_neg (fun z => e z.symm)] at h1
      rw [if_neg e]
      have := of_decide_eq_false h1
      exact decide_eq_true (by omega)
theorem hs_sorted {s : Snd} {r : Roa} {st : List (Int × Int)} {as : List Arr} (h : HsOk s r st as) : (hsOf as).Pairwise fun x y => HT.lexLt x.l y.l = true := by
  have hx : ∀ x ∈ dd (as.map aL), x.length = 3 ∧ BdS 2000 10000 x := fun x hx => by
    obtain ⟨a, ha, rfl⟩ := List.mem_map.mp (dd_mem.mp hx)
    have h1 := h.ok a ha
    have h2 := h.bd a ha
    have h3 := h1.t1
    have h4 := h1.p1
    have h5 := h.so.n2
    have h6 := h.sl
    refine ⟨rfl, fun z hz => ?_⟩
    simp only [aL, List.map_cons, List.map_nil, List.mem_cons, List.not_mem_nil, or_false] at hz
    rcases hz with rfl | rfl | rfl <;> omega
  have p1 := lsort_lex hx
  have n1 : (lsort (dd (as.map aL))).Nodup := (lsort_perm _).nodup_iff.mpr (dd_nodup _)
  unfold hsOf
  rw [List.pairwise_map]
  refine List.Pairwise.imp_of_mem (fun {x y} hx' hy' z => ?_) (List.Pairwise.and p1 n1)
  obtain ⟨a, _, rfl⟩ := List.mem_map.mp (dd_mem.mp (lsort_mem.mp hx'))
  obtain ⟨b, _, rfl⟩ := List.mem_map.mp (dd_mem.mp (lsort_mem.mp hy'))
  exact lex_strict (xs := aL a) (ys := aL b) rfl z.1 z.2
theorem hs_len (as : List Arr) : (hsOf as).length ≤ as.length := by
  unfold hsOf
  rw [List.length_map, (lsort_perm _).length_eq]
  have := (dd_sub (as.map aL)).length_le
  rwa [List.length_map] at this
theorem hs_ok {s : Snd} {r : Roa} {st : List (Int × Int)} {as : List Arr} (h : HsOk s r st as) : HOk s (hsOf as) := by
  have hl := hs_len as
  refine ⟨fun z => ?_, by have := h.len; omega, fun x hx => ?_, fun x hx => ?_, fun x hx => ?_, fun x hx => ?_, hs_sorted h, fun x hx => ?_⟩
  · obtain ⟨a, as', e⟩ := List.exists_cons_of_ne_nil h.ne
    have : aH a ∈ hsOf as := hsOf_mem.mpr ⟨a, by rw [e]; exact List.mem_cons_self, rfl⟩
    rw [z] at this
    cases this
  all_goals obtain ⟨a, ha, rfl⟩ := hsOf_mem.mp hx
  · show 0 ≤ (a.t : Int)
    omega
  · have h1 := (h.ok a ha).t1
    have h2 := h.sl
    show (a.t : Int) ≤ 100
    omega
  · show 0 ≤ (a.p : Int)
    omega
  · exact (h.ok a ha).p1
  · refine Int.le_trans ?_ (h.cp a.t a.p)
    have e1 : (hsOf as).countP (fun z => decide (z.t = (aH a).t ∧ z.p = (aH a).p)) ≤ as.countP fun c => decide (c.t = a.t ∧ c.p = a.p) := by
      unfold hsOf
      rw [List.countP_map, (lsort_perm _).countP_eq]
      refine Nat.le_trans ((dd_sub _).countP_le) ?_
      rw [List.countP_map]
      refine Nat.le_of_eq (List.countP_congr fun c _ => ?_)
      show decide ((c.t : Int) = (a.t : Int) ∧ (c.p : Int) = (a.p : Int)) = true ↔ decide (c.t = a.t ∧ c.p = a.p) = true
      rw [decide_eq_true_eq, decide_eq_true_eq]
      omega
    omega
theorem lex_t {x y : Hrd} (h : HT.lexLt x.l y.l = true) : x.t ≤ y.t := by
  unfold Hrd.l at h
  rw [HT.lexLt_cons] at h
  by_cases e : x.t = y.t
  · omega
  · rw [if_neg e] at h
    have := of_decide_eq_true h
    omega
theorem hs_rng {s : Snd} {hs : List Hrd} (h : HOk s hs) : ∀ x ∈ hs, firstT hs ≤ x.t ∧ x.t ≤ lastT hs := by
  have p : hs.Pairwise fun x y => x.t ≤ y.t := h.so.imp fun z => lex_t z
  intro x hx
  constructor
  · unfold firstT
    cases hs with
    | nil => cases hx
    | cons y ys =>
      rw [List.pairwise_cons] at p
      rcases List.mem_cons.mp hx with rfl | z
      · exact Int.le_refl _
      · exact p.1 x z
  · unfold lastT
    have e : hs.getLastD ⟨0, 0, 0⟩ = hs.getLast h.ne := by
      rw [List.getLastD_eq_getLast?, List.getLast?_eq_some_getLast h.ne]
      rfl
    rw [e]
    have e2 : hs = hs.dropLast ++ [hs.getLast h.ne] := (List.dropLast_concat_getLast h.ne).symm
    rw [e2] at p hx
    rw [List.pairwise_append] at p
    rcases List.mem_append.mp hx with z | z
    · exact p.2.2 x z _ (List.mem_singleton.mpr rfl)
    · rw [List.mem_singleton.mp z]
      exact Int.le_refl _
def stT (st : List (Int × Int)) (t : Int) : Int := (st.getD t.toNat (0, 0)).1
theorem st_T {s : Snd} {st : List (Int × Int)} (h : StOk s st) : TOk s (stT st) (st.length : Int) := ⟨fun t t0 t1 => by
  have l1 : t.toNat + 1 < st.length := by omega
  have q := h.step t.toNat st[t.toNat] st[t.toNat + 1] (List.getElem?_eq_getElem (by omega)) (List.getElem?_eq_getElem l1)
  unfold stT
  rw [show (t + 1).toNat = t.toNat + 1 by omega, List.getD_eq_getElem?_getD, List.getD_eq_getElem?_getD, List.getElem?_eq_getElem (show t.toNat < st.length by omega), List.getElem?_eq_getElem l1]
  exact q.1⟩
theorem hs_true {s : Snd} {r : Roa} {st : List (Int × Int)} {as : List Arr} (h : HsOk s r st as) : ∀ x ∈ hsOf as, HT1 s r (stT st) (st.length : Int) x ∧ -1000 ≤ x.m ∧ x.m ≤ 1000 := fun x hx => by
  obtain ⟨a, ha, rfl⟩ := hsOf_mem.mp hx
  have h1 := h.ok a ha
  have h2 := h.bd a ha
  have e : stT st (a.t : Int) = (st.getD a.t (0, 0)).1 := by unfold stT; rw [Int.toNat_natCast]
  refine ⟨⟨by show 0 ≤ (a.t : Int); omega, by show (a.t : Int) < _; have := h1.t1; omega, ?_, ?_⟩, h2⟩
  · show stT st (a.t : Int) + r.p ≤ a.m
    rw [e]
    exact h1.lo
  · show a.m ≤ stT st (a.t : Int) + r.p + r.q
    rw [e]
    exact h1.hi
theorem hs_sp {s : Snd} {r : Roa} {st : List (Int × Int)} {as : List Arr} (h : HsOk s r st as) (sk : StOk s st) : SpOk2 s r (hsOf as) := by
  have ho := hs_ok h
  have ht := hs_true h
  have tk := st_T sk
  refine ⟨⟨h.so, h.ro, ho, fun x hx y hy => sp_shut tk (ht x hx).1 (ht y hy).1⟩, hs_rng ho, fun t _ _ => sp_pace h.so.b1 ho.ne t, fun x hx => sp_arr tk (fun z hz => (ht z hz).1) hx⟩
end PW
namespace PW
open PySem PySem.Spec PyProof.Rows L2
/-! ### the plain law: the run is as it should be -/
theorem CmsOk.take {s : Snd} {r : Roa} {st : List (Int × Int)} {cs : List Arr} (h : CmsOk s r st cs) (j : Nat) : CmsOk s r st (cs.take j) :=
  ⟨fun c hc => h.ok c (List.mem_of_mem_take hc), fun t q => by
    have h1 := h.cp t q
    have h2 := (List.take_sublist j cs).countP_le (p := fun c : Arr => decide (c.t = t ∧ c.p = q))
    omega, h.so.sublist (List.take_sublist j cs)⟩
theorem take_succ_of {α : Type} {l : List α} {j : Nat} {a : α} (h : l[j]? = some a) : l.take (j + 1) = l.take j ++ [a] := by
  rw [List.take_add_one, h]
  rfl
theorem take_last {α : Type} {l : List α} {j : Nat} {a : α} (hj : j ≤ l.length) (h : (l.take j).getLast? = some a) : 0 < j ∧ l[j - 1]? = some a := by
  rw [List.getLast?_eq_getElem?, List.length_take, Nat.min_eq_left hj] at h
  have hj0 : 0 < j := by
    rcases Nat.eq_zero_or_pos j with z | z
    · subst z
      simp at h
    · exact z
  rw [List.getElem?_take] at h
  split at h
  · exact ⟨hj0, h⟩
  · cases h
theorem getD_take' {α : Type} {l : List α} {i t : Nat} {d : α} (h : t < i) : (l.take i).getD t d = l.getD t d := by
  rw [List.getD_eq_getElem?_getD, List.getD_eq_getElem?_getD, List.getElem?_take, if_pos h]
theorem CmsOk.cnt {s : Snd} {r : Roa} {st : List (Int × Int)} {cs : List Arr} (h : CmsOk s r st cs) {j : Nat} {a : Arr} (ha : cs[j]? = some a) : (((cs.take j).countP fun q => decide (q.t = a.t ∧ q.p = a.p) : Nat) : Int) < s.c := by
  have h1 := (h.take (j + 1)).cp a.t a.p
  rw [take_succ_of ha, List.countP_append, List.countP_singleton, if_pos (decide_eq_true (And.intro rfl rfl))] at h1
  omega
theorem StOk.num {s : Snd} {st : List (Int × Int)} (h : StOk s st) : ∀ t : Nat, t < st.length → (st.getD t (0, 0)).2 = ((st.getD 0 (0, 0)).2 + (t : Int)) % s.m
  | 0, ht => by
    have h1 := h.nm (st.getD 0 (0, 0)) (by
      rw [List.getD_eq_getElem?_getD, List.getElem?_eq_getElem ht]
      exact List.getElem_mem ht)
    rw [show (st.getD 0 (0, 0)).2 + ((0 : Nat) : Int) = (st.getD 0 (0, 0)).2 by omega, Int.emod_eq_of_lt h1.1 h1.2]
  | t + 1, ht => by
    have ih := StOk.num h t (by omega)
    have q := (h.step t st[t] st[t + 1] (List.getElem?_eq_getElem (by omega)) (List.getElem?_eq_getElem ht)).2
    have e1 : st.getD t (0, 0) = st[t] := by rw [List.getD_eq_getElem?_getD, List.getElem?_eq_getElem (by omega)]; rfl
    have e2 : st.getD (t + 1) (0, 0) = st[t + 1] := by rw [List.getD_eq_getElem?_getD, List.getElem?_eq_getElem ht]; rfl
    rw [e2, q, ← e1, ih]
    rw [show (st.getD 0 (0, 0)).2 + ((t + 1 : Nat) : Int) = (st.getD 0 (0, 0)).2 + (t : Int) + 1 by omega]
    rw [Int.emod_add_emod]
theorem StOk.get {s : Snd} {st : List (Int × Int)} (h : StOk s st) {t : Nat} (ht : t < st.length) : st.getD t (0, 0) ∈ st := by
  rw [List.getD_eq_getElem?_getD, List.getElem?_eq_getElem ht]
  exact List.getElem_mem ht
theorem num_mod {n0 ta tb m : Int} : ((n0 + tb) % m + (ta - tb) - (n0 + ta) % m) % m = 0 := by
  rw [Int.emod_def (n0 + tb), Int.emod_def (n0 + ta)]
  have e : n0 + tb - m * ((n0 + tb) / m) + (ta - tb) - (n0 + ta - m * ((n0 + ta) / m)) = m * ((n0 + ta) / m - (n0 + tb) / m) := by
    rw [Int.mul_sub]
    omega
  rw [e]
  exact Int.mul_emod_right _ _
theorem mens_mem {s : Snd} {r : Roa} {g k : Int} : k ∈ mensF s r g ↔ leastF s r g ≤ k ∧ k ≤ greatF s r g ∧ furF s k = true := by
  unfold mensF
  rw [List.mem_map]
  constructor
  · rintro ⟨i, hi, rfl⟩
    rw [List.mem_filter, List.mem_range] at hi
    exact ⟨by omega, by omega, hi.2⟩
  · rintro ⟨h1, h2, h3⟩
    refine ⟨(k - leastF s r g).toNat, List.mem_filter.mpr ⟨List.mem_range.mpr (by omega), ?_⟩, by omega⟩
    rw [show leastF s r g + (((k - leastF s r g).toNat : Nat) : Int) = k by omega]
    exact h3
theorem asc_ends {l : List Int} (h : l.Pairwise (· < ·)) {x : Int} (hx : x ∈ l) : l.headD 0 ≤ x ∧ x ≤ l.getLastD 0 := by
  constructor
  · cases l with
    | nil => cases hx
    | cons y ys =>
      rw [List.pairwise_cons] at h
      rcases List.mem_cons.mp hx with rfl | z
      · exact Int.le_refl _
      · exact Int.le_of_lt (h.1 x z)
  · have hne := List.ne_nil_of_mem hx
    have e : l.getLastD 0 = l.getLast hne := by
      rw [List.getLastD_eq_getLast?, List.getLast?_eq_some_getLast hne]
      rfl
    rw [e]
    have e2 : l = l.dropLast ++ [l.getLast hne] := (List.dropLast_concat_getLast hne).symm
    rw [e2] at h hx
    rw [List.pairwise_append] at h
    rcases List.mem_append.mp hx with z | z
    · exact Int.le_of_lt (h.2.2 x z _ (List.mem_singleton.mpr rfl))
    · rw [List.mem_singleton.mp z]
      exact Int.le_refl _
theorem asc_one {l : List Int} (h : l.Pairwise (· < ·)) {x : Int} (hx : x ∈ l) (hu : ∀ y ∈ l, y = x) : l = [x] := by
  cases l with
  | nil => cases hx
  | cons y ys =>
    have e := hu y List.mem_cons_self
    subst e
    cases ys with
    | nil => rfl
    | cons z zs =>
      have e := hu z (List.mem_cons_of_mem _ List.mem_cons_self)
      rw [List.pairwise_cons] at h
      have := h.1 z List.mem_cons_self
      omega
theorem wid_nn (s : Snd) (r : Roa) (g : Int) : 0 ≤ widF s r g := by
  unfold widF
  have a := mens_asc s r g
  cases h : mensF s r g with
  | nil => decide
  | cons x xs =>
    rw [h] at a
    have := asc_ends a (List.mem_cons_self (a := x) (l := xs))
    omega
theorem mng_one {s : Snd} {r : Roa} {n g l d : Int} (hd : d ∈ mngF s r n g l) (hw : widF s r g < s.m) : mngF s r n g l = [d] := by
  refine asc_one (mng_asc s r n g l) hd fun k hk => ?_
  unfold mngF at hd hk
  rw [List.mem_filter] at hd hk
  have h1 := asc_ends (mens_asc s r g) hd.1
  have h2 := asc_ends (mens_asc s r g) hk.1
  have e1 := of_decide_eq_true hd.2
  have e2 := of_decide_eq_true hk.2
  unfold widF at hw
  have b1 : k - d < s.m := by omega
  have b2 : d - k < s.m := by omega
  obtain ⟨u, hu⟩ := Int.dvd_of_emod_eq_zero e1
  obtain ⟨v, hv⟩ := Int.dvd_of_emod_eq_zero e2
  have e3 : k - d = s.m * (v - u) := by rw [Int.mul_sub]; omega
  have m0 : 0 < s.m := by
    have := wid_nn s r g
    unfold widF at this
    omega
  rcases Int.lt_trichotomy (v - u) 0 with z | z | z
  · have : s.m * (v - u) ≤ s.m * (-1) := Int.mul_le_mul_of_nonneg_left (by omega) (by omega)
    omega
  · rw [z, Int.mul_zero] at e3
    omega
  · have : s.m * 1 ≤ s.m * (v - u) := Int.mul_le_mul_of_nonneg_left (by omega) (by omega)
    omega
end PW
namespace PW
open PySem PySem.Spec PyProof.Rows L2
structure Sit (s : Snd) (r : Roa) (st : List (Int × Int)) (cs : List Arr) : Prop where
  so : s.Ok
  ro : r.Ok
  b5 : s.b ≤ 5
  q5 : r.q ≤ 5
  sk : StOk s st
  ck : CmsOk s r st cs
  cl : cs.length ≤ 30
theorem Sit.bd {s : Snd} {r : Roa} {st : List (Int × Int)} {cs : List Arr} (h : Sit s r st cs) {a : Arr} (ha : a ∈ cs) : -20 ≤ a.m ∧ a.m ≤ 80 ∧ a.t ≤ 5 ∧ a.p ≤ 10 := (h.ck.ok a ha).bd (h.sk.bd h.so.a1 h.b5) h.so h.ro h.sk.len
theorem Sit.gap {s : Snd} {r : Roa} {st : List (Int × Int)} {cs : List Arr} (h : Sit s r st cs) {a b : Arr} (ha : a ∈ cs) (hb : b ∈ cs) :
    a.m - b.m ≤ 25 ∧ stT st (a.t : Int) - stT st (b.t : Int) ≤ a.m - b.m + r.q ∧ a.m - b.m - r.q ≤ stT st (a.t : Int) - stT st (b.t : Int) := by
  have h1 := h.ck.ok a ha
  have h2 := h.ck.ok b hb
  have tk := st_T h.sk
  have l5 := h.sk.len
  have t1 := h1.t1
  have t2 := h2.t1
  obtain ⟨u1, u2⟩ := tk.bd (t := (b.t : Int)) (u := (a.t : Int)) (by omega) (by omega) (by omega) (by omega)
  have q5 := h.q5
  have b5 := h.b5
  have a1 := h.so.a1
  have b1 := h.so.b1
  have e1 : stT st (a.t : Int) = (st.getD a.t (0, 0)).1 := by unfold stT; rw [Int.toNat_natCast]
  have e2 : stT st (b.t : Int) = (st.getD b.t (0, 0)).1 := by unfold stT; rw [Int.toNat_natCast]
  have l1 := h1.lo
  have l2 := h1.hi
  have l3 := h2.lo
  have l4 := h2.hi
  have mx : stT st (a.t : Int) - stT st (b.t : Int) ≤ 20 := by
    by_cases c : 0 ≤ (a.t : Int) - b.t
    · have v := (u1 c).2
      have w1 : ((a.t : Int) - b.t) * s.b ≤ 4 * s.b := Int.mul_le_mul_of_nonneg_right (by omega) (by omega)
      omega
    · have v := (u2 (by omega)).2
      have w1 : ((a.t : Int) - b.t) * s.a ≤ 0 * s.a := Int.mul_le_mul_of_nonneg_right (by omega) (by omega)
      omega
  omega
theorem Sit.ends {s : Snd} {r : Roa} {st : List (Int × Int)} {cs : List Arr} (h : Sit s r st cs) {a b : Arr} (ha : a ∈ cs) (hb : b ∈ cs) (g0 : 0 ≤ a.m - b.m) :
    leastF s r (a.m - b.m) ≤ (a.t : Int) - b.t ∧ (a.t : Int) - b.t ≤ greatF s r (a.m - b.m) := by
  obtain ⟨g1, g2, g3⟩ := h.gap ha hb
  have h1 := h.ck.ok a ha
  have h2 := h.ck.ok b hb
  have t1 := h1.t1
  have t2 := h2.t1
  obtain ⟨u1, u2⟩ := (st_T h.sk).bd (t := (b.t : Int)) (u := (a.t : Int)) (by omega) (by omega) (by omega) (by omega)
  have a1 := h.so.a1
  have b1 := h.so.b1
  have q1 := h.ro.q1
  generalize stT st (a.t : Int) - stT st (b.t : Int) = D at *
  generalize (a.t : Int) - b.t = d at *
  generalize a.m - b.m = g at *
  have nd : ∀ c : Int, -d * c = -(d * c) := fun c => Int.neg_mul d c
  have pos : ∀ c : Int, 0 < c → 0 ≤ d → 0 ≤ d * c := fun c c1 c2 => Int.mul_nonneg c2 (by omega)
  have neg : ∀ c : Int, 0 < c → d ≤ 0 → d * c ≤ 0 := fun c c1 c2 => by
    have := Int.mul_le_mul_of_nonneg_right (c := c) c2 (by omega)
    omega
  have p1 := pos s.a (by omega)
  have p2 := pos s.b (by omega)
  have p3 := neg s.a (by omega)
  have p4 := neg s.b (by omega)
  have n1 := nd s.a
  have n2 := nd s.b
  constructor
  · unfold leastF
    by_cases c : 0 ≤ r.q - g
    · rw [if_pos c]
      have : -d ≤ (r.q - g) / s.a := by
        rw [Int.le_ediv_iff_mul_le (by omega), n1]
        by_cases z : 0 ≤ d
        · have := p1 z
          omega
        · have := u2 (by omega)
          omega
      omega
    · rw [if_neg c]
      have : -d ≤ (r.q - g) / s.b := by
        rw [Int.le_ediv_iff_mul_le (by omega), n2]
        by_cases z : 0 ≤ d
        · have := u1 z
          omega
        · have := u2 (by omega)
          have := p3 (by omega)
          omega
      omega
  · unfold greatF
    rw [Int.le_ediv_iff_mul_le (by omega)]
    by_cases z : 0 ≤ d
    · have := u1 z
      omega
    · have := p3 (by omega)
      omega
theorem Sit.mens_len {s : Snd} {r : Roa} {st : List (Int × Int)} {cs : List Arr} (h : Sit s r st cs) {g : Int} (g0 : 0 ≤ g) (g1 : g ≤ 25) : (mensF s r g).length < 64 := by
  have a1 := h.so.a1
  have b1 := h.so.b1
  have q1 := h.ro.q1
  have q5 := h.q5
  have u : greatF s r g ≤ 30 := by
    unfold greatF
    exact Int.ediv_le_of_le_mul (by omega) (by
      have : (30 : Int) * 1 ≤ 30 * s.a := Int.mul_le_mul_of_nonneg_left a1 (by omega)
      omega)
  have l : -5 ≤ leastF s r g := by
    unfold leastF
    split
    · have : (r.q - g) / s.a ≤ 5 := Int.ediv_le_of_le_mul (by omega) (by
        have : (5 : Int) * 1 ≤ 5 * s.a := Int.mul_le_mul_of_nonneg_left a1 (by omega)
        omega)
      omega
    · have : (r.q - g) / s.b ≤ 5 := Int.ediv_le_of_le_mul (by omega) (by
        have : (5 : Int) * 1 ≤ 5 * s.b := Int.mul_le_mul_of_nonneg_left (by omega) (by omega)
        omega)
      omega
  unfold mensF
  rw [List.length_map]
  have := List.length_filter_le (fun i : Nat => furF s (leastF s r g + (i : Int))) (List.range (greatF s r g + 1 - leastF s r g).toNat)
  rw [List.length_range] at this
  omega
theorem Sit.mro {s : Snd} {r : Roa} {st : List (Int × Int)} {cs : List Arr} {sure : Bool} (h : Sit s r st cs) (hu : sure = true → ∀ a ∈ cs, ∀ b ∈ cs, 0 ≤ a.m - b.m → widF s r (a.m - b.m) < s.m) {j : Nat} {a b : Arr} (ha : cs[j]? = some a) (hb : b ∈ cs.take j) : MROk s r st a b sure := by
  have ma := List.mem_of_getElem? ha
  have mb := List.mem_of_mem_take hb
  have g0 : 0 ≤ a.m - b.m := by
    have p := (h.ck.take (j + 1)).so
    rw [take_succ_of ha, List.pairwise_append] at p
    have := p.2.2 b hb a (List.mem_singleton.mpr rfl)
    omega
  obtain ⟨g1, _, _⟩ := h.gap ma mb
  obtain ⟨e1, e2⟩ := h.ends ma mb g0
  have oa := h.ck.ok a ma
  have ob := h.ck.ok b mb
  have fu : furF s ((a.t : Int) - b.t) = true := by
    unfold furF
    by_cases z : (a.t : Int) - b.t = 0
    · rw [decide_eq_true z, Bool.not_true, Bool.false_or]
      by_cases zn : 1 < s.n
      · rw [decide_eq_true zn]
        rfl
      · by_cases zc : 1 < s.c
        · rw [decide_eq_true zc, Bool.or_true]
        · have c := h.ck.cnt ha
          have pa := oa.p1
          have pb := ob.p1
          have : 0 < (cs.take j).countP fun q => decide (q.t = a.t ∧ q.p = a.p) := List.countP_pos_iff.mpr ⟨b, hb, decide_eq_true ⟨by omega, by omega⟩⟩
          omega
    · rw [decide_eq_false z]
      rfl
  have na := h.sk.nm _ (h.sk.get oa.t1)
  have nb := h.sk.nm _ (h.sk.get ob.t1)
  have mem : (a.t : Int) - b.t ∈ mngF s r (st.getD b.t (0, 0)).2 (a.m - b.m) (st.getD a.t (0, 0)).2 := by
    unfold mngF
    refine List.mem_filter.mpr ⟨mens_mem.mpr ⟨e1, e2, fu⟩, decide_eq_true ?_⟩
    rw [h.sk.num _ oa.t1, h.sk.num _ ob.t1]
    exact num_mod
  refine ⟨g0, by omega, oa.t1, ob.t1, na, nb, mem, ?_, fun z => mng_one mem (hu z a ma b mb g0), by have := h.sk.len; omega⟩
  have := h.mens_len g0 g1
  have := List.length_filter_le (fun k => decide (((st.getD b.t (0, 0)).2 + k - (st.getD a.t (0, 0)).2) % s.m = 0)) (mensF s r (a.m - b.m))
  unfold mngF
  omega
theorem Sit.hs {s : Snd} {r : Roa} {st : List (Int × Int)} {cs : List Arr} (h : Sit s r st cs) {j : Nat} (hj : j < cs.length) : HsOk s r st (cs.take (j + 1)) := by
  have ck := h.ck.take (j + 1)
  have cl := h.cl
  refine ⟨h.so, h.ro, fun z => ?_, ?_, ck.ok, fun c hc => ?_, ck.cp, h.sk.len⟩
  · have := congrArg List.length z
    rw [List.length_take, List.length_nil] at this
    omega
  · rw [List.length_take]
    omega
  · have := h.bd (List.mem_of_mem_take hc)
    omega
theorem Sit.sro {s : Snd} {r : Roa} {st : List (Int × Int)} {cs : List Arr} (h : Sit s r st cs) {j : Nat} (hj : j < cs.length) : SROk s r st (hsOf (cs.take (j + 1))) (elF s r cs j) := by
  have hk := h.hs hj
  have tk := st_T h.sk
  have ht := hs_true hk
  have ho := hs_ok hk
  have l5 := h.sk.len
  have rg : ∀ t, firstT (hsOf (cs.take (j + 1))) ≤ t → t ≤ lastT (hsOf (cs.take (j + 1))) → 0 ≤ t ∧ t < (st.length : Int) := fun t t1 t2 => by
    constructor
    · have h1 : (hsOf (cs.take (j + 1))).headD ⟨0, 0, 0⟩ ∈ hsOf (cs.take (j + 1)) := by
        cases hq : hsOf (cs.take (j + 1)) with
        | nil => exact absurd hq ho.ne
        | cons x xs => simp
      have := (ht _ h1).1.t0
      unfold firstT at t1
      omega
    · have h2 : (hsOf (cs.take (j + 1))).getLastD ⟨0, 0, 0⟩ ∈ hsOf (cs.take (j + 1)) := by
        rw [List.getLastD_eq_getLast?, List.getLast?_eq_some_getLast ho.ne]
        exact List.getLast_mem ho.ne
      have := (ht _ h2).1.t1
      unfold lastT at t2
      omega
  refine ⟨hs_sp hk h.sk, fun t t1 t2 => ?_, ?_, ?_, fun t t1 t2 => ?_⟩
  · obtain ⟨r0, r1⟩ := rg t t1 t2
    have hl : t.toNat < st.length := by omega
    refine ⟨st[t.toNat], List.getElem?_eq_getElem hl, ?_⟩
    have := sp_true tk (fun x hx => (ht x hx).1) ho.ne r0 r1
    have e : stT st t = st[t.toNat].1 := by
      unfold stT
      rw [List.getD_eq_getElem?_getD, List.getElem?_eq_getElem hl]
      rfl
    rw [e] at this
    exact this
  · unfold elF
    split
    · exact List.nodup_nil
    · unfold newEl
      rw [List.map_map]
      have : ((fun x : Int × Int × Int => x.1) ∘ fun t => (t, lowT s r (hsOf (cs.take j)) t, highT s r (hsOf (cs.take j)) t)) = id := rfl
      rw [this, List.map_id]
      exact txs_nd _
  · intro q hq t1 t2
    unfold elF at hq
    split at hq
    · cases hq
    · rename_i j0
      unfold newEl at hq
      obtain ⟨t, _, rfl⟩ := List.mem_map.mp hq
      have hk' : HsOk s r st (cs.take j) := by
        have := h.hs (j := j - 1) (by omega)
        rwa [show j - 1 + 1 = j by omega] at this
      refine sp_mono (hs_ok hk').ne (fun x hx => ?_) t
      obtain ⟨a, ha, rfl⟩ := hsOf_mem.mp hx
      exact hsOf_mem.mpr ⟨a, (List.take_subset_take_left cs (Nat.le_succ j)) ha, rfl⟩
  · obtain ⟨r0, r1⟩ := rg t t1 t2
    exact sp_bd h.so h.ro (by omega) ht ho.ne r0 r1
theorem run_of {s : Snd} {r : Roa} {e : Ear} {st : List (Int × Int)} {cs : List Arr} {sure : Bool} (h : Sit s r st cs) (eo : e.Ok) (hu : sure = true → ∀ a ∈ cs, ∀ b ∈ cs, 0 ≤ a.m - b.m → widF s r (a.m - b.m) < s.m) : RunOk s r e st cs sure := by
  refine ⟨h.so, h.ro, eo, h.sk.len, h.cl, fun a ha => ?_, fun i q σ hq hb => ?_, fun i j a σ ha hi hl hb hc => ?_, fun j hj => h.sro hj, fun j a ha b hb => h.mro hu ha hb⟩
  · have := h.bd ha
    exact ⟨(h.ck.ok a ha).t1, by omega⟩
  · have hn := h.sk.nm q (List.mem_of_getElem? hq)
    have hl := (List.getElem?_eq_some_iff.mp hq).1
    have l5 := h.sk.len
    refine ⟨hn.1, hn.2, fun p hp => ?_, ?_⟩
    · rw [hb] at hp
      obtain ⟨i0, e1⟩ := take_last (by omega) hp
      have := h.sk.step (i - 1) p q e1 (by rw [show i - 1 + 1 = i by omega]; exact hq)
      omega
    · rw [hb, List.length_take]
      omega
  · have ok := h.ck.ok a (List.mem_of_getElem? ha)
    have l5 := h.sk.len
    have cl := h.cl
    have hj := (List.getElem?_eq_some_iff.mp ha).1
    refine ⟨?_, ok.p1, ?_, ?_, fun q hq => ?_, ?_, ?_⟩
    · rw [hb, List.length_take]
      omega
    · rw [hb, getD_take' hi]
      exact ok.lo
    · rw [hb, getD_take' hi]
      exact ok.hi
    · rw [hc] at hq
      have p := (h.ck.take (j + 1)).so
      rw [take_succ_of ha, List.pairwise_append] at p
      exact p.2.2 q (List.mem_of_getLast? hq) a (List.mem_singleton.mpr rfl)
    · rw [hc]
      exact h.ck.cnt ha
    · rw [hc, List.length_take]
      omega
/-! ### the law's two runs -/
theorem sure_len (st : List (Int × Int)) (m : Int) : (sureSt st m).length = st.length := by
  unfold sureSt
  rw [List.length_map, List.length_range]
theorem sure_get {st : List (Int × Int)} {m : Int} {k : Nat} (hk : k < st.length) : (sureSt st m)[k]? = some ((st.getD k (0, 0)).1, ((st.getD 0 (0, 0)).2 + (k : Int)) % m) := by
  unfold sureSt
  rw [List.getElem?_map, List.getElem?_range hk]
  rfl
theorem sure_fst {st : List (Int × Int)} {m : Int} {k : Nat} (hk : k < st.length) : ((sureSt st m).getD k (0, 0)).1 = (st.getD k (0, 0)).1 := by
  rw [List.getD_eq_getElem?_getD, sure_get hk]
  rfl
theorem sure_st {s : Snd} {st : List (Int × Int)} (h : StOk s st) {m : Int} (m1 : 1 ≤ m) : StOk (sureS s m) (sureSt st m) := by
  have hp := List.length_pos_iff.mpr h.ne
  refine ⟨fun z => ?_, by rw [sure_len]; exact h.len, fun q hq => ?_, fun i q q' h1 h2 => ?_, fun q hq => ?_⟩
  · have := congrArg List.length z
    rw [sure_len, List.length_nil] at this
    omega
  · unfold sureSt at hq
    obtain ⟨k, _, rfl⟩ := List.mem_map.mp hq
    exact ⟨Int.emod_nonneg _ (by omega), Int.emod_lt_of_pos _ (by omega)⟩
  · have l2 := (List.getElem?_eq_some_iff.mp h2).1
    rw [sure_len] at l2
    rw [sure_get (by omega)] at h1
    rw [sure_get l2] at h2
    cases h1
    cases h2
    have st1 := h.step i st[i] st[i + 1] (List.getElem?_eq_getElem (by omega)) (List.getElem?_eq_getElem l2)
    have e1 : st.getD i (0, 0) = st[i] := by rw [List.getD_eq_getElem?_getD, List.getElem?_eq_getElem (by omega)]; rfl
    have e2 : st.getD (i + 1) (0, 0) = st[i + 1] := by rw [List.getD_eq_getElem?_getD, List.getElem?_eq_getElem l2]; rfl
    refine ⟨by rw [e1, e2]; exact st1.1, ?_⟩
    show ((st.getD 0 (0, 0)).2 + ((i + 1 : Nat) : Int)) % m = (((st.getD 0 (0, 0)).2 + (i : Int)) % m + 1) % m
    rw [Int.emod_add_emod, show (st.getD 0 (0, 0)).2 + ((i + 1 : Nat) : Int) = (st.getD 0 (0, 0)).2 + (i : Int) + 1 by omega]
  · rw [sure_get hp] at hq
    cases hq
    exact h.fst (st.getD 0 (0, 0)) (by rw [List.getD_eq_getElem?_getD, List.getElem?_eq_getElem hp]; rfl)
theorem sure_cms {s : Snd} {r : Roa} {st : List (Int × Int)} {cs : List Arr} (h : CmsOk s r st cs) {m : Int} : CmsOk (sureS s m) r (sureSt st m) cs := by
  refine ⟨fun c hc => ?_, h.cp, h.so⟩
  have ok := h.ok c hc
  exact ⟨by rw [sure_len]; exact ok.t1, ok.p1, by rw [sure_fst ok.t1]; exact ok.lo, by rw [sure_fst ok.t1]; exact ok.hi⟩
theorem sp_gap {cs : List Arr} (h : cs.Pairwise fun a b => a.m ≤ b.m) {a b : Arr} (ha : a ∈ cs) (hb : b ∈ cs) : a.m - b.m ≤ spF cs := by
  cases cs with
  | nil => cases ha
  | cons x xs =>
    have hne : x :: xs ≠ [] := List.cons_ne_nil _ _
    have e : spF (x :: xs) = ((x :: xs).getLast hne).m - x.m := by
      unfold spF
      rw [List.getLast?_eq_some_getLast hne]
      rfl
    rw [e]
    have h1 : x.m ≤ b.m := by
      rw [List.pairwise_cons] at h
      rcases List.mem_cons.mp hb with rfl | z
      · exact Int.le_refl _
      · exact h.1 b z
    have h2 : a.m ≤ ((x :: xs).getLast hne).m := by
      have e2 : x :: xs = (x :: xs).dropLast ++ [(x :: xs).getLast hne] := (List.dropLast_concat_getLast hne).symm
      rw [e2, List.pairwise_append] at h
      rw [e2] at ha
      rcases List.mem_append.mp ha with z | z
      · exact h.2.2 a z _ (List.mem_singleton.mpr rfl)
      · rw [List.mem_singleton.mp z]
        exact Int.le_refl _
    omega
theorem sp_mem {cs : List Arr} : spF cs = 0 ∨ ∃ a ∈ cs, ∃ b ∈ cs, spF cs = a.m - b.m := by
  cases cs with
  | nil => exact .inl rfl
  | cons x xs =>
    have hne : x :: xs ≠ [] := List.cons_ne_nil _ _
    refine .inr ⟨(x :: xs).getLast hne, List.getLast_mem hne, x, List.mem_cons_self, ?_⟩
    unfold spF
    rw [List.getLast?_eq_some_getLast hne]
    rfl
theorem vol_sit {v : Vol} {st : List (Int × Int)} {cs : List Arr} (vo : v.Ok) (so : StOk v.s st) (co : CmsOk v.s v.r st cs) : Sit v.s v.r st (cs.take 10) := ⟨vo.so, vo.ro, vo.b2, vo.q2, so, co.take 10, by rw [List.length_take]; omega⟩
theorem sp_range {v : Vol} {st : List (Int × Int)} {cs : List Arr} (vo : v.Ok) (so : StOk v.s st) (co : CmsOk v.s v.r st cs) : 0 ≤ spF (cs.take 10) ∧ spF (cs.take 10) ≤ 1000 := by
  have h := vol_sit vo so co
  rcases sp_mem (cs := cs.take 10) with z | ⟨a, ha, b, hb, e⟩
  · omega
  · have h1 := sp_gap h.ck.so ha ha
    have h2 := h.bd ha
    have h3 := h.bd hb
    omega
theorem sure_le {s : Snd} {r : Roa} {g : Int} {x : Int} (g0 : 0 ≤ g) (g1 : g ≤ x) : widF s r g < sureF s r x := by
  unfold sureF
  have : widF s r g ≤ maxL ((List.range (x + 1).toNat).map fun i : Nat => widF s r (0 + (i : Int))) := maxL_le (List.mem_map.mpr ⟨g.toNat, List.mem_range.mpr (by omega), by congr 1; omega⟩)
  omega
theorem plain : Plain := by
  refine ⟨fun v st cs vo so co => sp_range vo so co, fun v st cs vo so co => run_of (vol_sit vo so co) vo.e (fun z => by cases z), fun v st cs x vo so co hx => ?_⟩
  have hs := vol_sit vo so co
  obtain ⟨s0, s1⟩ := sp_range vo so co
  have w0 := wid_nn v.s v.r 0
  have w1 := sure_le (s := v.s) (r := v.r) (Int.le_refl 0) s0
  have wl : ∀ g, 0 ≤ g → g ≤ spF (cs.take 10) → widF v.s v.r g < sureF v.s v.r (spF (cs.take 10)) := fun g g0 g1 => sure_le g0 g1
  generalize sureF v.s v.r (spF (cs.take 10)) = sf at *
  have m1 : 1 ≤ sf + x := by omega
  refine ⟨m1, run_of (e := v.e) ⟨⟨vo.so.a1, vo.so.a2, vo.so.b1, vo.so.b2, vo.so.n1, vo.so.n2, vo.so.c1, vo.so.c2, m1⟩, vo.ro, vo.b2, vo.q2, sure_st so m1, sure_cms hs.ck, hs.cl⟩ vo.e fun _ a ha b hb g0 => ?_⟩
  have h1 := wl (a.m - b.m) g0 (sp_gap hs.ck.so ha hb)
  show widF v.s v.r (a.m - b.m) < sf + x
  omega
end PW
namespace PW
open PySem PySem.Spec PyProof.Rows L2
section
variable {P : Program} {w : World} {K : PySem.W.Frag} {mg : Str → Option Value} {base : Heap} {C : Addr}
/-- the law's def -/
structure LawG (P : Program) (w : World) (K : PySem.W.Frag) (mg : Str → Option Value) (base : Heap) (f : Addr) (fd : FuncData) : Prop where
  run : FnG P w K mg base 11 f fd ["_law_script"] (spLaw K)
theorem ok_law (E : Env1 K mg) (VL : LvC K mg C) : ∃ f fd, mg "law" = some (.ref f) ∧ (∀ (s : Shared) (u : Value), BindsTo s fd ⟨[u], []⟩ [("_law_script", u)]) ∧ ∀ (P : Program) (w : World) (base : Heap), LawG P w K mg base f fd := by
  have nd : (["_law_script", "_law_feed_here", "_law_volume_here", "_law_front", "_law_starts_here", "_law_comings_here", "_law_space", "_law_is_sure", "_law_names", "_law_k"] : List Str).Nodup := by decide +kernel
  obtain ⟨f, fd, F, hm⟩ := (E.T.at 67).ex
  have hb := F.bindsA (ps := ["_law_script"]) fun _ _ _ _ _ _ us hl => match us, hl with | [_], _ => rfl
  refine ⟨f, fd, hm, fun s u => hb s [u] rfl, fun P w base => ⟨?_⟩⟩
  refine fnG_of (N := ["_law_script", "_law_feed_here", "_law_volume_here", "_law_front", "_law_starts_here", "_law_comings_here", "_law_space", "_law_is_sure", "_law_names", "_law_k"]) F ⟨rfl, rfl, rfl, nd, rfl, by decide +kernel, by decide +kernel⟩ (fun vs H Q E0 h => ?_) fun cdv A outer s H vs Q E0 hr hgu hsp => ?_
  · obtain ⟨a, ns, rfl, _⟩ := h
    rfl
  · obtain ⟨a, ns, rfl, hO, hS, hQ⟩ := hsp
    rcases hS with hS | hS
    · rcases hS with h1 | ⟨o, h1⟩
      · rcases hO a with z | ⟨o, xs, z⟩
        · rw [h1] at z
          cases z
        · rw [h1] at z
          cases z
      · refine ⟨_, law_body E VL plain (M := [a]) (os := [.opq (.frz o (.lst (ns.map V.int)))]) (a := a) (ns := ns) hr hgu (fun x hx => ⟨_, List.mem_singleton.mp hx⟩) fun A2 o2 H2 sk hl => ?_, ?_⟩
        · have h2 := sk.at_ A2.length a (.opq (.frz o (.lst (ns.map V.int)))) (by rw [List.getElem?_append_right (Nat.le_refl _), Nat.sub_self] <;> rfl) (by rw [hl, List.getElem?_append_right (Nat.le_refl _), Nat.sub_self] <;> rfl)
          exact .inl (.inr ⟨o, h2⟩)
        · refine ⟨⟨rfl, List.nodup_cons.mpr ⟨List.not_mem_nil, List.nodup_nil⟩, fun i b q h3 h4 => ?_⟩, EnvR.start (.cons (.adr a) .nil), hQ⟩
          match i, h3, h4 with
          | 0, h3, h4 =>
            cases h3
            cases h4
            exact h1
          | i + 1, h3, h4 => cases h3
    · exact ⟨_, law_body E VL plain (M := []) (os := []) (a := a) (ns := ns) hr hgu (fun x hx => by cases hx) fun A2 o2 H2 sk hl => .inr hS, Sok.nil, EnvR.start (.cons (.adr a) .nil), hQ⟩
end
end PW
namespace PW
open PySem PySem.Spec PyProof.Rows L2
/-! ### the law called: nothing is being written around it -/
section
variable {P : Program} {w : World} {K : PySem.W.Frag} {mg mb : Str → Option Value} {k : Nat} {fa a : Addr} {fd : FuncData} {x : Str} {sp : Sp} {s₁ : Shared} {vs : List Value} {ns : List Int} {H : Hp}
abbrev EndOk (s₁ : Shared) : Result → Shared → Prop := fun r s' => r = .ok (.ret (.bool true)) ∧ OldK s₁.heap s'.heap ∧ s'.os = s₁.os ∧ AllBare s'.gens
/-- from a told heap in which the script alone may stand -/
theorem callG_at (KX : K.In s₁.heap) (hns : s₁.heap.Ns mainGlobals mg) (hb : s₁.heap.Ns builtinsNs mb) (hbb : ∀ x : Str, x ≠ "__name__" → mb x = bootBuiltins x) (hlim : s₁.heap.NoLimit) (hg : s₁.gens = #[])
    (ha : s₁.heap.get? a = some { cls := .type "list", data := .seq vs.toArray }) (hr : Room k callerA)
    (F : ∀ base : Heap, FnG P w K mg base k fa fd [x] sp) (hbind : ∀ (s : Shared) (u : Value), BindsTo s fd ⟨[u], []⟩ [(x, u)])
    (hsp : sp [.ref a] H (fun v _ => v = .bl true) C8.E0) (hO : Only H) (hok : L2.HOk P w H s₁.heap) (hA : ∀ b, H b ≠ none → b = a) (hK : H a ≠ none → K.lookup a = none) :
    codeAny (model P w) callerA (.call (.ref fa) ⟨[.ref a], []⟩) (EndOk s₁) s₁ := by
  have freeD : ∀ {b : Addr} {o : Obj} {es : Array DictEntry} {n : Nat}, s₁.heap.get? b = some o → o.data = .dict es n → H b = none := fun {b o es n} e d => Classical.byContradiction fun z => by
    rw [hA b z, ha] at e
    cases e
    cases d
  have nsD : ∀ {b : Addr} {m : Str → Option Value}, s₁.heap.Ns b m → (hidT s₁.heap H).Ns b m := fun ⟨o, es, n, e, d, r⟩ => ⟨o, es, n, hidT_get e (freeD e d), d, r⟩
  have inK : K.In (hidT s₁.heap H) := fun b o e => hidT_get (KX b o e) <| Classical.byContradiction fun z => by
    have eb := hA b z
    subst eb
    rw [hK z] at e
    cases e
  obtain ⟨ml, l1, l2⟩ := hlim
  have mo : Mod K mg (hidT s₁.heap H) := ⟨inK, nsD hns, ⟨mb, nsD hb, hbb⟩, ml, nsD l1, l2⟩
  have e0 : Env0 P w K mg (hidT s₁.heap H) callerA [] s₁ H := ⟨rfl, mo, fun b o => of_hidT, Nat.le_of_eq (hidT_size _ _), trivial, fun b hb => (by cases hb), hok, .of_eq hg⟩
  refine codeAny_mono ((F _).run callerA [] s₁ H ⟨[.ref a], []⟩ [.ref a] [.ref a] _ C8.E0 hr rfl e0 (hbind s₁ (.ref a)) (.cons rfl .nil) hsp) fun r s' h => ?_
  match r, h with
  | .error e, h => exact False.elim h
  | .ok .next, h => exact False.elim h
  | .ok .brk, h => exact False.elim h
  | .ok .cont, h => exact False.elim h
  | .ok (.ret u), h =>
    obtain ⟨v, H', h1, h2, un, ok', rv, (ev : v = .bl true)⟩ := h
    subst ev
    cases (show u = Value.bool true from rv)
    refine ⟨rfl, OldK.of_keep fun b o e => ?_, h1, h2⟩
    rcases hO b with z | ⟨ob, xs, z⟩
    · exact un.keep b o e z (fun n => by cases n) (fun n => by cases n)
    · have e1 := (hok b _ z).1
      rw [e] at e1
      cases e1
      exact (ok' b _ (un.frzs b _ _ z)).1
theorem law_callG (KX : K.In s₁.heap) (hns : s₁.heap.Ns mainGlobals mg) (hb : s₁.heap.Ns builtinsNs mb) (hbb : ∀ x : Str, x ≠ "__name__" → mb x = bootBuiltins x) (hlim : s₁.heap.NoLimit) (hg : s₁.gens = #[])
    (ha : s₁.heap.get? a = some { cls := .type "list", data := .seq vs.toArray }) (hi : IntsAre vs ns) (hl : ns.length ≤ sizeLine) (hr : Room k callerA)
    (F : ∀ base : Heap, FnG P w K mg base k fa fd [x] sp) (hbind : ∀ (s : Shared) (u : Value), BindsTo s fd ⟨[u], []⟩ [(x, u)])
    (hsp : ∀ H : Hp, Only H → SqL K H a (ns.map V.int) → sp [.ref a] H (fun v _ => v = .bl true) C8.E0) :
    codeAny (model P w) callerA (.call (.ref fa) ⟨[.ref a], []⟩) (EndOk s₁) s₁ := by
  have rv := vals_ints hi
  have hz : vs.toArray.size ≤ sizeLine := by
    rw [List.size_toArray]
    have := hi.length
    omega
  cases hk : K.lookup a with
  | some o =>
    have e := KX a o hk
    rw [ha] at e
    cases e
    have hO : Only fun _ => none := fun _ => .inl rfl
    have hS : SqL K (fun _ => none) a (ns.map V.int) := .inr ⟨_, vs.toArray, _, hk, rfl, rfl, rfl, hz, by simpa using rv⟩
    exact callG_at (H := fun _ => none) KX hns hb hbb hlim hg ha hr F hbind (hsp _ hO hS) hO (fun b u z => by cases z) (fun b z => absurd rfl z) fun z => absurd rfl z
  | none =>
    let u : HO := .frz { cls := .type "list", data := .seq vs.toArray } (.lst (ns.map V.int))
    let H : Hp := fun b => if b = a then some u else none
    have at_ : H a = some u := if_pos rfl
    have off : ∀ b, b ≠ a → H b = none := fun b z => if_neg z
    have hO : Only H := fun b => (Classical.em (b = a)).elim (fun z => .inr ⟨{ cls := .type "list", data := .seq vs.toArray }, ns.map V.int, by rw [z] <;> exact at_⟩) fun z => .inl (off b z)
    have hS : SqL K H a (ns.map V.int) := .inl (.inr ⟨_, at_⟩)
    refine callG_at (H := H) KX hns hb hbb hlim hg ha hr F hbind (hsp _ hO hS) hO (fun b q z => ?_) (fun b z => Classical.byContradiction fun n => z (off b n)) fun _ => hk
    have eb : b = a := Classical.byContradiction fun n => by
      rw [off b n] at z
      cases z
    subst eb
    rw [at_] at z
    cases z
    exact ⟨ha, by rw [List.length_map] <;> exact hl, vs, _, rv, ha⟩
theorem walk_G {l : PySem.W.OpenLaw} {n k : Nat} {q : Program} {loose : List Str} {XP : (Str → Option Value) → Heap → Prop} {YP : World → Heap → Prop} {d : DefRec} {x : Str}
    (hn : l.most = some n) (hn2 : n ≤ sizeLine) (hdf : d.params.defaults = []) (hr : Room k callerA)
    (F : ∀ (w : World) (mg : Str → Option Value) (h : Heap), YP w h → h.Ns mainGlobals mg →
      ∃ (K : PySem.W.Frag) (fa : Addr) (fd : FuncData) (sp : Sp), K.In h ∧ mg d.name = some (.ref fa) ∧ (∀ (s : Shared) (u : Value), BindsTo s fd ⟨[u], []⟩ [(x, u)]) ∧
        (∀ (H : Hp) (a : Addr) (ns : List Int), Only H → SqL K H a (ns.map V.int) → sp [.ref a] H (fun v _ => v = .bl true) C8.E0) ∧ ∀ base : Heap, FnG l.prog w K mg base k fa fd [x] sp) :
    PySem.W.WalkO q loose XP YP l.row.toRowW d [] (fun f vs => PySem.call f vs) := by
  refine Att.attach_call hn hdf fun w s₀ s₁ mg mb fa o pm cd doc a vs ns G Y ho hd hcd hmg hobj hints hlen hg => ?_
  obtain ⟨K, f2, fd, sp, KX, hm2, hb, hsp, hF⟩ := F w mg _ Y G.T.g
  rw [hmg] at hm2
  cases hm2
  exact law_callG KX G.T.g G.T.b G.T.builtins G.T.nolimit hg hobj hints (Nat.le_trans hlen hn2) hr hF hb fun H hO hS => hsp H a ns hO hS
end
end PW
namespace PW
open PySem PySem.Spec PyProof.Rows L2
theorem fa_mem {K : PySem.W.Frag} {fa : List He.Fa} {fn : List He.DefD} (c : He.SaysD fa fn K) {f : He.Fa} (h : f ∈ fa) : f.ok K = true := by
  obtain ⟨i, hi⟩ := List.getElem?_of_mem h
  exact c.fact i hi
theorem fn_mem {K : PySem.W.Frag} {fa : List He.Fa} {fn : List He.DefD} (c : He.SaysD fa fn K) {d : He.DefD} (h : d ∈ fn) : ∃ fd, FunD K d.name d.qual d.params d.body d.scope (d.dvs K) (d.kws K) (He.fAd K d.at_) fd := by
  obtain ⟨i, hi⟩ := List.getElem?_of_mem h
  exact c.def_ i hi
section
variable {K : PySem.W.Frag} {h : Heap} {mg : Str → Option Value}
theorem facts (X : K.In h) (G : h.Ns mainGlobals mg) (c : obsP K = valP) : Env1 K mg ∧ LvC K mg (He.ga K "LiveHearer") := by
  have cD : He.SaysD hFa hFn K := congrArg (fun z : AlP => z.1) c
  have cB : exB K = true := congrArg (fun z : AlP => z.2.1) c
  have cV : atV K (gtA K) = (lvDef runRow).val := congrArg (fun z : AlP => z.2.2) c
  obtain ⟨b1, b⟩ := He.ba cB
  obtain ⟨b2, b⟩ := He.ba b
  obtain ⟨b3, b4⟩ := He.ba b
  have m1 : ∀ f ∈ ([.glo "LiveHearer", .cls "LiveHearer", .mkr "LiveHearer", .glo "DROPS"] : List He.Fa), f.ok K = true := fun f hf => fa_mem cD (by
    unfold hFa
    simp only [List.mem_append]
    exact .inl (.inl (.inl (.inl hf))))
  have m2 : ∀ f ∈ FS, (He.Fa.noat "LiveHearer" f).ok K = true := fun f hf => fa_mem cD (by
    unfold hFa
    simp only [List.mem_append]
    exact .inl (.inl (.inl (.inr (List.mem_map.mpr ⟨f, hf, rfl⟩)))))
  have m3 : ∀ p ∈ mtbl, (He.Fa.meth "LiveHearer" p.1).ok K = true := fun p hp => fa_mem cD (by
    unfold hFa
    simp only [List.mem_append]
    exact .inl (.inl (.inr (List.mem_map.mpr ⟨p, hp, rfl⟩))))
  have m4 : ∀ x ∈ biN, mg x = none := fun x hx => He.free_ok X G (fa_mem cD (by
    unfold hFa
    simp only [List.mem_append]
    exact .inl (.inr (List.mem_map.mpr ⟨x, hx, rfl⟩))))
  have m5 : ∀ p ∈ tbl, (He.Fa.glo p.1).ok K = true := fun p hp => fa_mem cD (by
    unfold hFa
    simp only [List.mem_append]
    exact .inr (List.mem_map.mpr ⟨p, hp, rfl⟩))
  have d1 : ∀ p ∈ tbl, ∃ fd, FunD K p.1 p.1 (defArgs (top p.2)) (defBody (top p.2)) (defScope (top p.2)) [] [] (He.ga K p.1) fd := fun p hp => fn_mem cD (d := topDef1 p) (by
    unfold hFn
    exact List.mem_cons_of_mem _ (List.mem_append.mpr (.inr (List.mem_map.mpr ⟨p, hp, rfl⟩))))
  have d2 : ∀ p ∈ mtbl, ∃ fd, FunD K p.1 p.2.1 (defArgs (lv p.2.2)) (defBody (lv p.2.2)) (defScope (lv p.2.2)) [] [] (He.ma K (He.ga K "LiveHearer") p.1) fd := fun p hp => fn_mem cD (d := lvDef p) (by
    unfold hFn
    exact List.mem_cons_of_mem _ (List.mem_append.mpr (.inl (List.mem_map.mpr ⟨p, hp, rfl⟩))))
  obtain ⟨fi, hi⟩ := fn_mem cD (d := lvDef iniRow) (by
    unfold hFn
    exact List.mem_cons_self)
  obtain ⟨fg, hg⟩ := at_funD cV b2
  have n1 : ∀ i x, biN[i]? = some x → mg x = none := fun i x hx => m4 x (List.mem_of_getElem? hx)
  refine ⟨⟨⟨fun p hp => ?_⟩, ⟨n1 0 _ rfl, n1 1 _ rfl, n1 2 _ rfl, n1 3 _ rfl, n1 4 _ rfl, n1 5 _ rfl, n1 6 _ rfl, n1 7 _ rfl, n1 8 _ rfl, n1 9 _ rfl, n1 10 _ rfl, n1 11 _ rfl, n1 12 _ rfl, n1 13 _ rfl, n1 14 _ rfl, n1 15 _ rfl, n1 16 _ rfl⟩, ?_⟩, ?_⟩
  · obtain ⟨fd, F⟩ := d1 p hp
    exact ⟨_, fd, F, He.glo_ok X G (m5 p hp)⟩
  · exact ⟨_, He.glo_ok X G (m1 (.glo "DROPS") (by simp)), fun H => He.tupB_ok b4 H⟩
  · refine ⟨He.glo_ok X G (m1 (.glo "LiveHearer") (by simp)), He.cls_ok (m1 (.cls "LiveHearer") (by simp)), fun f hf => He.noat_ok (m2 f hf), ⟨_, fi, He.mkr_ok (m1 (.mkr "LiveHearer") (by simp)), hi⟩, fun p hp => ?_, ?_, ⟨_, _, fg, prB_ok b1, hg⟩⟩
    · obtain ⟨fd, F⟩ := d2 p hp
      exact ⟨_, fd, He.meth_ok (m3 p hp), F⟩
    · exact He.conB_ok b3
end
end PW
open PySem PySem.W PySem.Calls PyProof.Rows
theorem PySem.Challenge.cw_pieceswindow_k95_whole_told_back_at_each_holds : PySem.Challenge.rw_pieceswindow_k95_whole_told_back_at_each.Holds := by
  w_on; o_law
  refine HandSHeadRun.head_any (r := OpenLaw.row PySem.Challenge.rw_pieceswindow_k95_whole_told_back_at_each) (q := view (OpenLaw.row PySem.Challenge.rw_pieceswindow_k95_whole_told_back_at_each).prog [97]) (H := PW.hookP 5) (ob := PW.obL) (M := 15000) (loose := PW.names) (d := HandSHeadRun.topDef (OpenLaw.row PySem.Challenge.rw_pieceswindow_k95_whole_told_back_at_each).prog 97) (kwd := []) PW.obL_eq
    (by kernel_rfl) (fun s => by kernel_rfl) PW.run (by kernel_rfl) (by kernel_rfl) (by kernel_rfl) (by rfl) (by first | assumption | decide +kernel) (by decide +kernel) ⟨rfl, rfl, rfl, rfl, rfl, by decide +kernel⟩ ?hw ?hc
  case hw => w_witness2
  case hc =>
    refine PW.walk_G (l := PySem.Challenge.rw_pieceswindow_k95_whole_told_back_at_each) (n := 63) (k := 11) (x := "_law_script") rfl (by decide) (by kernel_rfl) ⟨rfl, by decide, by decide⟩ ?F
    intro w mg h Y G
    obtain ⟨K, KX, c⟩ := Y
    obtain ⟨E, VL⟩ := PW.facts KX G c
    obtain ⟨f, fd, hm, hb, hF⟩ := PW.ok_law E VL
    have e : (HandSHeadRun.topDef (OpenLaw.row PySem.Challenge.rw_pieceswindow_k95_whole_told_back_at_each).prog 97).name = ("law" : PySem.Str) := by kernel_rfl
    refine ⟨K, f, fd, PW.spLaw K, KX, ?_, hb, fun H a ns hO hS => ⟨a, ns, rfl, hO, hS, fun _ => rfl⟩, fun base => (hF _ w base).run⟩
    rw [e]
    exact hm
