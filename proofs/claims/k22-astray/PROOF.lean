import PyProof.Rows.All
import Wide.All
import OpenK.AllK
import Wide.FinOn
import HandS.ForMost
import HandS.Text
import HandS.Dict
import HandS.TupAny
import KE.DataEq
import HandS.WideBits
import HandS.DictComp
import HandS.Exc
import HandS.ExcOwn
import HandS.CallSlots
import HandS.IsInst
import HandS.SortInts
import HandS.TryOnly
import HandS.Finally
import HandS.WordsExc
import HandS.Codes
import HandS.Head0
import HandS.Head1
import HandS.Head2
import HandS.HeadEnd
import HandS.HeadHook1
import HandS.HeadHook2
import HandS.HeadHook3
import HandS.ExcIs
import HandS.ExcInit
import HandS.ExcField
import KE.KExcIs
import HandS.Iter
import HandS.Zip
import HandS.List
import HandS.Small
import HandS.More
import HandS.Defaults
import KE.GoesEnumKw
import HandS.SortKw
import PySem.Challenge.RW_frameback_k22_astray
set_option Elab.async false
set_option linter.all false
set_option maxRecDepth 100000
set_option maxHeartbeats 4000000
namespace FB
open PySem L2
/-- a datum: a Python value as a tree -/
inductive D where
  | non | bl (b : Bool) | int (i : Int) | str (s : Str)
  | lst (ds : List D) | tup (ds : List D) | frz (ds : List D)
  | dic (ks : List Key) (ds : List D)
  | obj (c : Nat) (fs : List Str) (ds : List D)
  deriving Inhabited
end FB
namespace FB
open PySem L2 PyProof.Rows
mutual
/-- a constant of the module: ints, texts, tuples of these -/
def gB (K : PySem.W.Frag) : Value → D → Bool
  | .none, .non => true
  | .bool a, .bl b => a == b
  | .int i _, .int j => decide (i = j)
  | .str x _, .str y => decide (x = y)
  | .ref a, .tup ds => (match K.lookup a with
    | some ⟨.type c, _, .seq its _, _⟩ => decide (c = "tuple") && (decide (its.size ≤ sizeLine) && gBs K its.toList ds)
    | _ => false)
  | _, _ => false
def gBs (K : PySem.W.Frag) : List Value → List D → Bool
  | [], [] => true
  | u :: us, d :: ds => gB K u d && gBs K us ds
  | _, _ => false
end
def gAt (K : PySem.W.Frag) (x : Str) (d : D) : Bool := match PySem.W.nsIn K mainGlobals x with
  | some (some u) => gB K u d
  | _ => false
def tabOk : List DictEntry → List (Str × Int) → Bool
  | [], [] => true
  | e :: es, (x, i) :: T => (match e.key, e.val with
    | .str y _, .int j _ => decide (y = x) && decide (j = i)
    | _, _ => false) && tabOk es T
  | _, _ => false
def tabB (K : PySem.W.Frag) (d : Addr) (T : List (Str × Int)) : Bool := match K.lookup d with
  | some ⟨_, _, .dict es _, _⟩ => tabOk es.toList T
  | _ => false
end FB
namespace FB
open PySem PySem.Spec PyProof.Rows L2
/-! ### the end over a head that is run by the kernel: facts by names -/
/-- the part of the heap that is looked at -/
def asN (_ : Addr → Option Obj) (n : List Addr) : List Addr := n
def allOf (bs : List Bool) : Bool := bs.all fun b => b
abbrev TabN : Type := Str × List (Str × Int)
abbrev AlN : Type := ((He.Al × Bool) × List (Option (List (Option (Str × Int))))) × List He.FnW
def obsK (fn : List He.FnD) (ds : List He.DefD) (ex : PySem.W.Frag → List Bool) (ts : List TabN) (K : PySem.W.Frag) : AlN := (((He.obsE [] fn K, allOf (ex K)), ts.map fun t => He.dicW K (He.ga K t.1)), ds.map fun d => He.fnW K d.at_)
def valN (fn : List He.FnD) (ds : List He.DefD) (ts : List TabN) (w : World) : AlN := (((He.valE fn, true), ts.map fun t => some (He.keysIn w.params (t.2.map (·.1)))), ds.map He.DefD.val)
def obsN (n : List Addr) (fn : List He.FnD) (ds : List He.DefD) (ex : PySem.W.Frag → List Bool) (ts : List TabN) (g : Addr → Option Obj) : AlN := obsK fn ds ex ts (He.frG g (asN g n))
structure SaysN (fn : List He.FnD) (ds : List He.DefD) (ex : PySem.W.Frag → List Bool) (ts : List TabN) (w : World) (K : PySem.W.Frag) : Prop where
  fns : He.SaysE [] fn K
  all : allOf (ex K) = true
  tab : (ts.map fun t => He.dicW K (He.ga K t.1)) = ts.map fun t => some (He.keysIn w.params (t.2.map (·.1)))
  dfs : (ds.map fun d => He.fnW K d.at_) = ds.map He.DefD.val
theorem saysN_of {fn : List He.FnD} {ds : List He.DefD} {ex : PySem.W.Frag → List Bool} {ts : List TabN} {w : World} {K : PySem.W.Frag} (e : obsK fn ds ex ts K = valN fn ds ts w) : SaysN fn ds ex ts w K :=
  ⟨congrArg (fun z : AlN => z.1.1.1) e, congrArg (fun z : AlN => z.1.1.2) e, congrArg (fun z : AlN => z.1.2) e, congrArg (fun z : AlN => z.2) e⟩
def hookN (n : List Addr) (fn : List He.FnD) (ds : List He.DefD) (ex : PySem.W.Frag → List Bool) (ts : List TabN) : PySem.W.Hook where
  α := AlN
  obs := fun s => obsN n fn ds ex ts s.heap.get?
  val := fun w => valN fn ds ts w
  says := fun w h => ∃ K : PySem.W.Frag, K.In h ∧ SaysN fn ds ex ts w K
  of := fun _ _ e => ⟨_, He.frG_in, saysN_of e⟩
  keeps := fun _ _ _ ⟨K, hK, c⟩ k => ⟨K, PySem.W.Frag.In.keeps hK k, c⟩
theorem obsN_eq {n : List Addr} {fn : List He.FnD} {ds : List He.DefD} {ex : PySem.W.Frag → List Bool} {ts : List TabN} {g : Addr → Option Obj} {s : Shared} (h : ∀ a, g a = s.heap.get? a) : obsN n fn ds ex ts g = (hookN n fn ds ex ts).obs s := by
  have e : g = s.heap.get? := funext h
  rw [e] <;> rfl
def clsAt (K : PySem.W.Frag) (C : Addr) (m : Str) (f : Addr) : Bool := match PySem.W.findCls K (.ref C) (.type "type") m with
  | some (.val (.ref a)) => decide (a = f)
  | _ => false
end FB
namespace FB
open PySem PySem.Spec PyProof.Rows L2
/-- an own exception class over ValueError: what is looked at -/
def exoB (K : PySem.W.Frag) (C : Addr) : Bool := match K.lookup C with
  | some ⟨.type "type", _, .cls d, sl⟩ => (match d.mro, sl.toList with
    | .ref C2 :: up, [_, _, _, _, some (.builtin mk), _] => decide (C2 = C) && (decide (mk = "ValueError.__new__") && (!d.hasDel && (d.hasDict && PySem.HandSPX.refsVE up)))
    | _, _ => false)
  | _ => false
def clsBAt (K : PySem.W.Frag) (C : Addr) (m : Str) (b : String) : Bool := match PySem.W.findCls K (.ref C) (.type "type") m with
  | some (.val (.builtin n)) => decide (n = b)
  | _ => false
end FB
namespace Law
open PySem L2 PyProof.Rows FB
def top (i : Nat) : Stmt := PySem.Challenge.pw_frameback_k22_astray.main.body.getD i (.Pass ⟨0, 0, 0, 0⟩)
def clA (K : PySem.W.Frag) : Nat → Addr
  | 0 => He.ga K "FrameError"
  | 1 => He.ga K "Astray"
  | 2 => He.ga K "Table"
  | _ => 0
def adA (K : PySem.W.Frag) : Nat → Addr
  | 0 => He.fAd K ("Astray", some "__init__")
  | 1 => He.fAd K ("Table", some "__init__")
  | 2 => He.fAd K ("lying", none)
  | 3 => He.fAd K ("one_up", none)
  | 4 => He.fAd K ("callers", none)
  | 5 => He.fAd K ("_law_cell_at", none)
  | 6 => He.fAd K ("_law_cell", none)
  | 7 => He.fAd K ("_law_set", none)
  | 8 => He.fAd K ("_law_entry", none)
  | 9 => He.fAd K ("_law_value", none)
  | 10 => He.fAd K ("_law_up", none)
  | 11 => He.fAd K ("_law_due", none)
  | 12 => He.fAd K ("_law_told", none)
  | 13 => He.fAd K ("law", none)
  | _ => 0
def fd_0 : He.FnD := ⟨("Astray", some "__init__"), "__init__", "Astray.__init__", defArgs (inClass (top 2) 0), defBody (inClass (top 2) 0), defScope (inClass (top 2) 0)⟩
def fd_1 : He.DefD := ⟨("Table", some "__init__"), "__init__", "Table.__init__", defArgs (inClass (top 5) 0), defBody (inClass (top 5) 0), defScope (inClass (top 5) 0), [.non], []⟩
def fd_2 : He.FnD := ⟨("lying", none), "lying", "lying", defArgs (top 8), defBody (top 8), defScope (top 8)⟩
def fd_3 : He.FnD := ⟨("one_up", none), "one_up", "one_up", defArgs (top 9), defBody (top 9), defScope (top 9)⟩
def fd_4 : He.FnD := ⟨("callers", none), "callers", "callers", defArgs (top 10), defBody (top 10), defScope (top 10)⟩
def fd_5 : He.FnD := ⟨("_law_cell_at", none), "_law_cell_at", "_law_cell_at", defArgs (top 12), defBody (top 12), defScope (top 12)⟩
def fd_6 : He.FnD := ⟨("_law_cell", none), "_law_cell", "_law_cell", defArgs (top 13), defBody (top 13), defScope (top 13)⟩
def fd_7 : He.FnD := ⟨("_law_set", none), "_law_set", "_law_set", defArgs (top 14), defBody (top 14), defScope (top 14)⟩
def fd_8 : He.FnD := ⟨("_law_entry", none), "_law_entry", "_law_entry", defArgs (top 15), defBody (top 15), defScope (top 15)⟩
def fd_9 : He.FnD := ⟨("_law_value", none), "_law_value", "_law_value", defArgs (top 16), defBody (top 16), defScope (top 16)⟩
def fd_10 : He.FnD := ⟨("_law_up", none), "_law_up", "_law_up", defArgs (top 17), defBody (top 17), defScope (top 17)⟩
def fd_11 : He.FnD := ⟨("_law_due", none), "_law_due", "_law_due", defArgs (top 18), defBody (top 18), defScope (top 18)⟩
def fd_12 : He.FnD := ⟨("_law_told", none), "_law_told", "_law_told", defArgs (top 19), defBody (top 19), defScope (top 19)⟩
def fd_13 : He.FnD := ⟨("law", none), "law", "law", defArgs (top 20), defBody (top 20), defScope (top 20)⟩
def dfL : List He.DefD := [fd_1]
def fnL : List He.FnD := ([fd_0, fd_2, fd_3, fd_4, fd_5, fd_6, fd_7, fd_8, fd_9, fd_10, fd_11, fd_12, fd_13] : List He.FnD)
def ex_0 (K : PySem.W.Frag) : List Bool := [decide (PySem.W.nsIn K mainGlobals "FrameError" = some (some (.ref (He.ga K "FrameError")))), decide (PySem.W.nsIn K mainGlobals "Astray" = some (some (.ref (He.ga K "Astray")))), decide (PySem.W.nsIn K mainGlobals "Table" = some (some (.ref (He.ga K "Table")))), decide (PySem.W.keepIn K (.ref (He.fAd K ("Astray", some "__init__"))) = true), decide (PySem.W.keepIn K (.ref (He.fAd K ("Table", some "__init__"))) = true), decide (PySem.W.nsIn K mainGlobals "lying" = some (some (.ref (He.fAd K ("lying", none))))), decide (PySem.W.keepIn K (.ref (He.fAd K ("lying", none))) = true), decide (PySem.W.nsIn K mainGlobals "one_up" = some (some (.ref (He.fAd K ("one_up", none))))), decide (PySem.W.keepIn K (.ref (He.fAd K ("one_up", none))) = true), decide (PySem.W.nsIn K mainGlobals "callers" = some (some (.ref (He.fAd K ("callers", none))))), decide (PySem.W.keepIn K (.ref (He.fAd K ("callers", none))) = true), decide (PySem.W.nsIn K mainGlobals "_law_cell_at" = some (some (.ref (He.fAd K ("_law_cell_at", none))))), decide (PySem.W.keepIn K (.ref (He.fAd K ("_law_cell_at", none))) = true), decide (PySem.W.nsIn K mainGlobals "_law_cell" = some (some (.ref (He.fAd K ("_law_cell", none))))), decide (PySem.W.keepIn K (.ref (He.fAd K ("_law_cell", none))) = true), decide (PySem.W.nsIn K mainGlobals "_law_set" = some (some (.ref (He.fAd K ("_law_set", none))))), decide (PySem.W.keepIn K (.ref (He.fAd K ("_law_set", none))) = true), decide (PySem.W.nsIn K mainGlobals "_law_entry" = some (some (.ref (He.fAd K ("_law_entry", none))))), decide (PySem.W.keepIn K (.ref (He.fAd K ("_law_entry", none))) = true), decide (PySem.W.nsIn K mainGlobals "_law_value" = some (some (.ref (He.fAd K ("_law_value", none))))), decide (PySem.W.keepIn K (.ref (He.fAd K ("_law_value", none))) = true), decide (PySem.W.nsIn K mainGlobals "_law_up" = some (some (.ref (He.fAd K ("_law_up", none))))), decide (PySem.W.keepIn K (.ref (He.fAd K ("_law_up", none))) = true), decide (PySem.W.nsIn K mainGlobals "_law_due" = some (some (.ref (He.fAd K ("_law_due", none))))), decide (PySem.W.keepIn K (.ref (He.fAd K ("_law_due", none))) = true)]
def ex_1 (K : PySem.W.Frag) : List Bool := [decide (PySem.W.nsIn K mainGlobals "_law_told" = some (some (.ref (He.fAd K ("_law_told", none))))), decide (PySem.W.keepIn K (.ref (He.fAd K ("_law_told", none))) = true), decide (PySem.W.nsIn K mainGlobals "law" = some (some (.ref (He.fAd K ("law", none))))), decide (PySem.W.keepIn K (.ref (He.fAd K ("law", none))) = true), fd_1.ok K, decide (PySem.W.makesIn K (He.ga K "Table") = true), decide (PySem.W.findIn K (.ref (He.ga K "Table")) "__init__" = some (some (.ref (He.fAd K ("Table", some "__init__"))))), decide (PySem.W.keepIn K (.ref (He.ga K "Table")) = true), decide (PySem.W.isFn K (.ref (He.fAd K ("Table", some "__init__"))) = true), decide (PySem.W.plainGet K (He.ga K "Table") Str.empty = true), decide (PySem.W.hasDictIn K (He.ga K "Table") = true), decide (PySem.W.plainOver K (He.ga K "Table") = true), decide (PySem.W.findIn K (.ref (He.ga K "Table")) "__setattr__" = some (some (.builtin "object.__setattr__"))), decide (PySem.W.findIn K (.ref (He.ga K "Table")) "entries" = some none), decide (PySem.W.findIn K (.ref (He.ga K "Table")) "landings" = some none), decide (PySem.W.nsIn K mainGlobals "ValueError" = some none), decide (PySem.W.nsIn K mainGlobals "dict" = some none), decide (PySem.W.nsIn K mainGlobals "int" = some none), decide (PySem.W.nsIn K mainGlobals "isinstance" = some none), decide (PySem.W.nsIn K mainGlobals "len" = some none), decide (PySem.W.nsIn K mainGlobals "list" = some none), decide (PySem.W.nsIn K mainGlobals "max" = some none), decide (PySem.W.nsIn K mainGlobals "range" = some none), (He.Fa.int "BOXES" 8).ok K, (He.Fa.int "MOST" 5000).ok K]
def ex_2 (K : PySem.W.Frag) : List Bool := [decide (PySem.W.specialIn K (.ref (He.ga K "FrameError")) "__getattribute__" = some (some (.builtin "type.__getattribute__"))), decide (PySem.W.readsIn K (He.ga K "FrameError") (.type "type") = true), clsBAt K (He.ga K "FrameError") "__init__" "ValueError.__init__", decide (PySem.W.findIn K (.ref (He.ga K "Astray")) "__getattribute__" = some (some (.builtin "BaseException.__getattribute__"))), decide (PySem.W.findIn K (.ref (He.ga K "Astray")) "__getattr__" = some none), decide (PySem.W.subIn K (.ref (He.ga K "Astray")) (.type "BaseException") = some true), decide (PySem.W.hasDictIn K (He.ga K "Astray") = true), exoB K (He.ga K "Astray"), decide (PySem.W.findIn K (.ref (He.ga K "Astray")) "__setattr__" = some (some (.builtin "object.__setattr__"))), decide (PySem.W.typeIn K (.ref (He.ga K "Astray")) = some (.type "type")), decide (PySem.W.keepIn K (.ref (He.ga K "Astray")) = true), decide (PySem.W.findIn K (.ref (He.ga K "Astray")) "row" = some none), decide (PySem.W.findIn K (.ref (He.ga K "Astray")) "__init__" = some (some (.ref (He.fAd K ("Astray", some "__init__"))))), decide (PySem.W.typeIn K (.ref (He.fAd K ("Astray", some "__init__"))) = some (.type "function")), decide (PySem.W.findIn K (.ref (He.ga K "Astray")) "__class__" = some (some (.builtin "object.__class__"))), decide (PySem.W.specialIn K (.builtin "object.__class__") "__get__" = some (some (.builtin "getset_descriptor.__get__"))), decide (PySem.W.takesIn K (.builtin "object.__class__") = some true), decide (PySem.W.mroIn K (He.ga K "Astray") (.type "object") = some true), decide (PySem.W.exmOne K (.ref (He.ga K "Astray")) (.ref (He.ga K "Astray")) = some true), decide (PySem.W.kitOne K (.ref (He.ga K "Astray")) (.ref (He.ga K "FrameError")) = some true), decide (PySem.W.kitOne K (.ref (He.ga K "Astray")) (.type "ValueError") = some true)]
def tsL : List FB.TabN := []
def exA (K : PySem.W.Frag) : List Bool := [allOf (ex_0 K), allOf (ex_1 K), allOf (ex_2 K)]
abbrev RR : PySem.W.OpenRow := PySem.W.OpenLaw.row PySem.Challenge.rw_frameback_k22_astray
def namesL : List PySem.Str := (["FrameError", "Astray", "BOXES", "Table", "MOST", "lying", "one_up", "callers", "_law_cell_at", "_law_cell", "_law_set", "_law_entry", "_law_value", "_law_up", "_law_due", "_law_told"] : List PySem.Str)
def asL : List Addr := List.range 1200
def ob (s : PySem.W.SharedT) : FB.AlN := obsN asL fnL dfL exA tsL (HandSHeadRun.getT s)
theorem ob_eq (s : PySem.W.SharedT) : ob s = (hookN asL fnL dfL exA tsL).obs s.abs := obsN_eq (HandSHeadRun.getT_eq s)
set_option maxHeartbeats 0 in
theorem run (w : World) : HandSHeadRun.RunEq RR (PySem.W.view RR.prog [20]) (hookN asL fnL dfL exA tsL) ob 60000 namesL w := by
  intro os
  kernel_rfl
end Law
namespace FB
open PySem L2

/-- who holds it: shared; its top node held by one alone; its top node and each child as told -/
inductive O where
  | sh | root | node (os : List O)
  deriving Inhabited
abbrev DO := D × O
inductive Item where
  | val (v : V) (d : D) (o : O)
  | cell (a : Addr) (u : HO)

/-- no exception's dict -/
def nxB : HO → Bool
  | .xd _ => false
  | _ => true
def Ex (H H' : Hp) : Prop := ∀ a o, H a = some o → H' a = some o
theorem Ex.refl (H : Hp) : Ex H H := fun _ _ h => h
theorem Ex.trans {H H1 H2 : Hp} (a : Ex H H1) (b : Ex H1 H2) : Ex H H2 := fun x o h => b x o (a x o h)
theorem Ex.new {H : Hp} {p : Addr} {o : HO} (h : H p = none) : Ex H (upd H p o) := fun a u e => by
  rw [upd_ne (ne_of_none e h)]
  exact e
theorem ex_rd {H H' : Hp} {a : Addr} {u : HO} (e : Ex H H') (h : Rd H a u) : Rd H' a u := by
  rcases h with h | ⟨o, h⟩
  · exact Or.inl (e a _ h)
  · exact Or.inr ⟨o, e a _ h⟩
theorem ex_l {K : PySem.W.Frag} {H H' : Hp} {a : Addr} {xs : List V} (e : Ex H H') (h : SqL K H a xs) : SqL K H' a xs := h.imp (ex_rd e) id
theorem ex_t {K : PySem.W.Frag} {H H' : Hp} {a : Addr} {xs : List V} (e : Ex H H') (h : SqT K H a xs) : SqT K H' a xs := h.imp (ex_rd e) id

theorem rdK_inj {H : Hp} {a : Addr} {k l : List (Key × V)} (h1 : Rd H a (.dK k)) (h2 : Rd H a (.dK l)) : k = l := by
  rcases h1 with h1 | ⟨o, h1⟩ <;> rcases h2 with h2 | ⟨o2, h2⟩ <;> rw [h1] at h2 <;> cases h2 <;> rfl
/-! ### shared data -/
section
variable (K : PySem.W.Frag) (cl : Nat → Addr) (P : Hp)
mutual
inductive Rs : V → D → Prop
  | non : Rs .non .non
  | bl (b : Bool) : Rs (.bl b) (.bl b)
  | int (i : Int) : Rs (.int i) (.int i)
  | str (s : Str) : Rs (.str s) (.str s)
  | lst {a : Addr} {vs : List V} {ds : List D} : P a = some (.lst vs) → Rss vs ds → Rs (.ref a) (.lst ds)
  | frz {a : Addr} {vs : List V} {ds : List D} : SqL K P a vs → Rss vs ds → Rs (.ref a) (.frz ds)
  | tup {a : Addr} {vs : List V} {ds : List D} : SqT K P a vs → Rss vs ds → Rs (.ref a) (.tup ds)
  | dic {a : Addr} {ks : List Key} {vs : List V} {ds : List D} : Rd P a (.dK (ks.zip vs)) → ks.length = vs.length → Rss vs ds → Rs (.ref a) (.dic ks ds)
  | obj {a dx : Addr} {c : Nat} {fs : List Str} {vs : List V} {ds : List D} : P a = some (.ins (cl c) dx (fs.zip vs)) → fs.length = vs.length → Rss vs ds → Rs (.ref a) (.obj c fs ds)
inductive Rss : List V → List D → Prop
  | nil : Rss [] []
  | cons {v : V} {d : D} {vs : List V} {ds : List D} : Rs v d → Rss vs ds → Rss (v :: vs) (d :: ds)
end
end
/-! ### held data -/
section
variable (K : PySem.W.Frag) (cl : Nat → Addr) (P H : Hp)
mutual
inductive Ro : V → D → O → List Addr → Prop
  | sh {v : V} {d : D} : Rs K cl P v d → Ro v d .sh []
  | lstR {a : Addr} {vs : List V} {ds : List D} : H a = some (.lst vs) → Rss K cl P vs ds → Ro (.ref a) (.lst ds) .root [a]
  | tupR {a : Addr} {vs : List V} {ds : List D} : H a = some (.tup vs) → Rss K cl P vs ds → Ro (.ref a) (.tup ds) .root [a]
  | dicR {a : Addr} {ks : List Key} {vs : List V} {ds : List D} : H a = some (.dK (ks.zip vs)) → ks.length = vs.length → Rss K cl P vs ds → Ro (.ref a) (.dic ks ds) .root [a]
  | objR {a dx : Addr} {c : Nat} {fs : List Str} {vs : List V} {ds : List D} : H a = some (.ins (cl c) dx (fs.zip vs)) → fs.length = vs.length → Rss K cl P vs ds → Ro (.ref a) (.obj c fs ds) .root [a]
  | lstN {a : Addr} {vs : List V} {ds : List D} {os : List O} {fp : List Addr} : H a = some (.lst vs) → Ros vs ds os fp → Ro (.ref a) (.lst ds) (.node os) (a :: fp)
  | tupN {a : Addr} {vs : List V} {ds : List D} {os : List O} {fp : List Addr} : H a = some (.tup vs) → Ros vs ds os fp → Ro (.ref a) (.tup ds) (.node os) (a :: fp)
  | objN {a dx : Addr} {c : Nat} {fs : List Str} {vs : List V} {ds : List D} {os : List O} {fp : List Addr} : H a = some (.ins (cl c) dx (fs.zip vs)) → fs.length = vs.length → Ros vs ds os fp → Ro (.ref a) (.obj c fs ds) (.node os) (a :: fp)
inductive Ros : List V → List D → List O → List Addr → Prop
  | nil : Ros [] [] [] []
  | cons {v : V} {d : D} {o : O} {vs : List V} {ds : List D} {os : List O} {f g : List Addr} : Ro v d o f → Ros vs ds os g → Ros (v :: vs) (d :: ds) (o :: os) (f ++ g)
end
inductive Its : List Item → List Addr → Prop
  | nil : Its [] []
  | val {v : V} {d : D} {o : O} {f g : List Addr} {L : List Item} : Ro K cl P H v d o f → Its L g → Its (.val v d o :: L) (f ++ g)
  | cell {a : Addr} {u : HO} {g : List Addr} {L : List Item} : H a = some u → nxB u = true → Its L g → Its (.cell a u :: L) (a :: g)
end
section
variable {K : PySem.W.Frag} {cl : Nat → Addr} {P P' H H' R : Hp}
mutual
theorem Rs.mono (e : Ex P P') : ∀ {v : V} {d : D}, Rs K cl P v d → Rs K cl P' v d
  | _, _, .non => .non
  | _, _, .bl b => .bl b
  | _, _, .int i => .int i
  | _, _, .str s => .str s
  | _, _, .lst h r => .lst (e _ _ h) (Rss.mono e r)
  | _, _, .frz h r => .frz (ex_l e h) (Rss.mono e r)
  | _, _, .tup h r => .tup (ex_t e h) (Rss.mono e r)
  | _, _, .dic h l r => .dic (ex_rd e h) l (Rss.mono e r)
  | _, _, .obj h l r => .obj (e _ _ h) l (Rss.mono e r)
theorem Rss.mono (e : Ex P P') : ∀ {vs : List V} {ds : List D}, Rss K cl P vs ds → Rss K cl P' vs ds
  | _, _, .nil => .nil
  | _, _, .cons h r => .cons (Rs.mono e h) (Rss.mono e r)
end
mutual
theorem Ro.mono (e : Ex P P') : ∀ {v : V} {d : D} {o : O} {f : List Addr}, Ro K cl P H v d o f → (∀ b ∈ f, ∀ u, H b = some u → H' b = some u) → Ro K cl P' H' v d o f
  | _, _, _, _, .sh h, _ => .sh (h.mono e)
  | _, _, _, _, .lstR h r, k => .lstR (k _ List.mem_cons_self _ h) (r.mono e)
  | _, _, _, _, .tupR h r, k => .tupR (k _ List.mem_cons_self _ h) (r.mono e)
  | _, _, _, _, .dicR h l r, k => .dicR (k _ List.mem_cons_self _ h) l (r.mono e)
  | _, _, _, _, .objR h l r, k => .objR (k _ List.mem_cons_self _ h) l (r.mono e)
  | _, _, _, _, .lstN h r, k => .lstN (k _ List.mem_cons_self _ h) (Ros.mono e r fun b hb => k b (List.mem_cons_of_mem _ hb))
  | _, _, _, _, .tupN h r, k => .tupN (k _ List.mem_cons_self _ h) (Ros.mono e r fun b hb => k b (List.mem_cons_of_mem _ hb))
  | _, _, _, _, .objN h l r, k => .objN (k _ List.mem_cons_self _ h) l (Ros.mono e r fun b hb => k b (List.mem_cons_of_mem _ hb))
theorem Ros.mono (e : Ex P P') : ∀ {vs : List V} {ds : List D} {os : List O} {f : List Addr}, Ros K cl P H vs ds os f → (∀ b ∈ f, ∀ u, H b = some u → H' b = some u) → Ros K cl P' H' vs ds os f
  | _, _, _, _, .nil, _ => .nil
  | _, _, _, _, .cons h r, k => .cons (Ro.mono e h fun b hb => k b (List.mem_append_left _ hb)) (Ros.mono e r fun b hb => k b (List.mem_append_right _ hb))
end
theorem Its.mono (e : Ex P P') : ∀ {L : List Item} {f : List Addr}, Its K cl P H L f → (∀ b ∈ f, ∀ u, H b = some u → H' b = some u) → Its K cl P' H' L f
  | _, _, .nil, _ => .nil
  | _, _, .val h r, k => .val (h.mono e fun b hb => k b (List.mem_append_left _ hb)) (Its.mono e r fun b hb => k b (List.mem_append_right _ hb))
  | _, _, .cell h n r, k => .cell (k _ List.mem_cons_self _ h) n (Its.mono e r fun b hb => k b (List.mem_cons_of_mem _ hb))
/-! what is held stands in H -/
mutual
theorem Ro.there : ∀ {v : V} {d : D} {o : O} {f : List Addr}, Ro K cl P H v d o f → ∀ b ∈ f, ∃ u, H b = some u
  | _, _, _, _, .sh h, _, hb => nomatch hb
  | _, _, _, _, .lstR h r, b, hb => by rcases List.mem_cons.mp hb with rfl | hb; exact ⟨_, h⟩; exact nomatch hb
  | _, _, _, _, .tupR h r, b, hb => by rcases List.mem_cons.mp hb with rfl | hb; exact ⟨_, h⟩; exact nomatch hb
  | _, _, _, _, .dicR h l r, b, hb => by rcases List.mem_cons.mp hb with rfl | hb; exact ⟨_, h⟩; exact nomatch hb
  | _, _, _, _, .objR h l r, b, hb => by rcases List.mem_cons.mp hb with rfl | hb; exact ⟨_, h⟩; exact nomatch hb
  | _, _, _, _, .lstN h r, b, hb => by rcases List.mem_cons.mp hb with rfl | hb; exact ⟨_, h⟩; exact Ros.there r b hb
  | _, _, _, _, .tupN h r, b, hb => by rcases List.mem_cons.mp hb with rfl | hb; exact ⟨_, h⟩; exact Ros.there r b hb
  | _, _, _, _, .objN h l r, b, hb => by rcases List.mem_cons.mp hb with rfl | hb; exact ⟨_, h⟩; exact Ros.there r b hb
theorem Ros.there : ∀ {vs : List V} {ds : List D} {os : List O} {f : List Addr}, Ros K cl P H vs ds os f → ∀ b ∈ f, ∃ u, H b = some u
  | _, _, _, _, .nil, _, hb => nomatch hb
  | _, _, _, _, .cons h r, b, hb => by
    rcases List.mem_append.mp hb with hb | hb
    · exact Ro.there h b hb
    · exact Ros.there r b hb
end
theorem Its.there : ∀ {L : List Item} {f : List Addr}, Its K cl P H L f → ∀ b ∈ f, ∃ u, H b = some u
  | _, _, .nil, _, hb => nomatch hb
  | _, _, .val h r, b, hb => by
    rcases List.mem_append.mp hb with hb | hb
    · exact h.there b hb
    · exact Its.there r b hb
  | _, _, .cell h n r, b, hb => by
    rcases List.mem_cons.mp hb with rfl | hb
    · exact ⟨_, h⟩
    · exact Its.there r b hb
/-! what is held may be shared -/
mutual
theorem Ro.share (e : Ex P P') : ∀ {v : V} {d : D} {o : O} {f : List Addr}, Ro K cl P H v d o f → (∀ b ∈ f, P' b = H b) → Rs K cl P' v d
  | _, _, _, _, .sh h, _ => h.mono e
  | _, _, _, _, .lstR h r, k => .lst ((k _ List.mem_cons_self).trans h) (r.mono e)
  | _, _, _, _, .tupR h r, k => .tup (.of ((k _ List.mem_cons_self).trans h)) (r.mono e)
  | _, _, _, _, .dicR h l r, k => .dic (.inl ((k _ List.mem_cons_self).trans h)) l (r.mono e)
  | _, _, _, _, .objR h l r, k => .obj ((k _ List.mem_cons_self).trans h) l (r.mono e)
  | _, _, _, _, .lstN h r, k => .lst ((k _ List.mem_cons_self).trans h) (Ros.share e r fun b hb => k b (List.mem_cons_of_mem _ hb))
  | _, _, _, _, .tupN h r, k => .tup (.of ((k _ List.mem_cons_self).trans h)) (Ros.share e r fun b hb => k b (List.mem_cons_of_mem _ hb))
  | _, _, _, _, .objN h l r, k => .obj ((k _ List.mem_cons_self).trans h) l (Ros.share e r fun b hb => k b (List.mem_cons_of_mem _ hb))
theorem Ros.share (e : Ex P P') : ∀ {vs : List V} {ds : List D} {os : List O} {f : List Addr}, Ros K cl P H vs ds os f → (∀ b ∈ f, P' b = H b) → Rss K cl P' vs ds
  | _, _, _, _, .nil, _ => .nil
  | _, _, _, _, .cons h r, k => .cons (Ro.share e h fun b hb => k b (List.mem_append_left _ hb)) (Ros.share e r fun b hb => k b (List.mem_append_right _ hb))
end
theorem Its.append : ∀ {L M : List Item} {f g : List Addr}, Its K cl P H L f → Its K cl P H M g → Its K cl P H (L ++ M) (f ++ g)
  | _, _, _, _, .nil, s => s
  | _, _, _, _, .val h r, s => by rw [List.append_assoc]; exact .val h (Its.append r s)
  | _, _, _, _, .cell h n r, s => .cell h n (Its.append r s)
theorem Its.split : ∀ {L M : List Item} {f : List Addr}, Its K cl P H (L ++ M) f → ∃ g h, f = g ++ h ∧ Its K cl P H L g ∧ Its K cl P H M h
  | [], _, f, s => ⟨[], f, rfl, .nil, s⟩
  | .val v d o :: L, M, _, .val h r => by
    obtain ⟨g', h', rfl, a, b⟩ := Its.split r
    exact ⟨_, _, by rw [List.append_assoc], .val h a, b⟩
  | .cell x u :: L, M, _, .cell h n r => by
    obtain ⟨g', h', rfl, a, b⟩ := Its.split r
    exact ⟨_, _, rfl, .cell h n a, b⟩
theorem Its.perm {L M : List Item} (p : L.Perm M) : ∀ {f : List Addr}, Its K cl P H L f → ∃ g, f.Perm g ∧ Its K cl P H M g := by
  induction p with
  | nil => exact fun s => ⟨_, .refl _, s⟩
  | cons x p ih =>
    intro f s
    cases s with
    | val h r =>
      obtain ⟨g, pg, s⟩ := ih r
      exact ⟨_, pg.append_left _, .val h s⟩
    | cell h n r =>
      obtain ⟨g, pg, s⟩ := ih r
      exact ⟨_, pg.cons _, .cell h n s⟩
  | swap x y l =>
    intro f s
    have e : y :: x :: l = [y] ++ ([x] ++ l) := rfl
    rw [e] at s
    obtain ⟨g, h, rfl, a, b⟩ := Its.split s
    obtain ⟨g', h', rfl, a', b'⟩ := Its.split b
    refine ⟨g' ++ (g ++ h'), ?_, a'.append (a.append b')⟩
    rw [← List.append_assoc, ← List.append_assoc]
    exact List.perm_append_comm.append_right _
  | trans p q ih1 ih2 =>
    intro f s
    obtain ⟨g, pg, s⟩ := ih1 s
    obtain ⟨h, ph, s⟩ := ih2 s
    exact ⟨h, pg.trans ph, s⟩

/-- the raw part R stands, what L says is so, what is held is held by one alone -/
def Good (K : PySem.W.Frag) (cl : Nat → Addr) (R H : Hp) (L : List Item) : Prop :=
  ∃ P f, Ex R P ∧ Ex P H ∧ (∀ b ∈ f, P b = none) ∧ f.Nodup ∧ Its K cl P H L f
variable {L M : List Item} {v : V} {d : D} {o : O} {a : Addr} {u u' : HO}
theorem Good.raw (g : Good K cl R H L) : Ex R H := let ⟨_, _, a, b, _⟩ := g; a.trans b
theorem Good.perm (g : Good K cl R H L) (p : L.Perm M) : Good K cl R H M := by
  obtain ⟨P, f, a, b, c, d, e⟩ := g
  obtain ⟨f', pf, e'⟩ := e.perm p
  exact ⟨P, f', a, b, fun x hx => c x (pf.mem_iff.mpr hx), (pf.nodup_iff).mp d, e'⟩
theorem Good.tailA (g : Good K cl R H (L ++ M)) : Good K cl R H M := by
  obtain ⟨P, f, a, b, c, d, e⟩ := g
  obtain ⟨f1, f2, rfl, e1, e2⟩ := e.split
  exact ⟨P, f2, a, b, fun x hx => c x (List.mem_append_right _ hx), (List.nodup_append.mp d).2.1, e2⟩
theorem Good.tail {x : Item} (g : Good K cl R H (x :: L)) : Good K cl R H L := Good.tailA (L := [x]) g
theorem Good.heap (g : Good K cl R H L) (k : Ex H H') : Good K cl R H' L := by
  obtain ⟨P, f, a, b, c, d, e⟩ := g
  exact ⟨P, f, a, b.trans k, c, d, e.mono (Ex.refl P) fun x _ u hx => k x u hx⟩
/-- P with what is held at f -/
def ext (P H : Hp) (f : List Addr) : Hp := fun b => if b ∈ f then H b else P b
theorem ext_in {f : List Addr} {b : Addr} (h : b ∈ f) : ext P H f b = H b := by unfold ext; rw [if_pos h]
theorem ext_out {f : List Addr} {b : Addr} (h : b ∉ f) : ext P H f b = P b := by unfold ext; rw [if_neg h]
theorem ext_ex {f : List Addr} (n : ∀ b ∈ f, P b = none) : Ex P (ext P H f) := fun b u e => by
  by_cases h : b ∈ f
  · rw [n b h] at e; cases e
  · rw [ext_out h]; exact e
theorem ext_le {f : List Addr} (e : Ex P H) : Ex (ext P H f) H := fun b u h => by
  by_cases hb : b ∈ f
  · rw [ext_in hb] at h; exact h
  · rw [ext_out hb] at h; exact e b u h
/-- the first one is shared from now on -/
theorem Good.share (g : Good K cl R H (.val v d o :: L)) : Good K cl R H (.val v d .sh :: L) := by
  obtain ⟨P, f, a, b, c, n, e⟩ := g
  cases e with
  | @val _ _ _ f1 f2 _ h r =>
    have n' := List.nodup_append.mp n
    have c1 : ∀ x ∈ f1, P x = none := fun x hx => c x (List.mem_append_left _ hx)
    refine ⟨ext P H f1, [] ++ f2, a.trans (ext_ex c1), ext_le b, fun x hx => ?_, n'.2.1, .val (.sh (h.share (ext_ex c1) fun x hx => ext_in hx)) (r.mono (ext_ex c1) fun _ _ _ q => q)⟩
    have hx : x ∈ f2 := hx
    rw [ext_out fun hx1 => n'.2.2 x hx1 x hx rfl]
    exact c x (List.mem_append_right _ hx)
def shI : Item → Item
  | .val v d _ => .val v d .sh
  | .cell a u => .cell a u
theorem Its.shareAll (e : Ex P P') : ∀ {L : List Item} {f : List Addr}, Its K cl P H L f → (∀ b ∈ f, P' b = H b) → (∀ a u, Item.cell a u ∉ L) → Its K cl P' H (L.map shI) []
  | _, _, .nil, _, _ => .nil
  | _, _, .val h r, k, n => .val (f := []) (g := []) (.sh (h.share e fun b hb => k b (List.mem_append_left _ hb))) (Its.shareAll e r (fun b hb => k b (List.mem_append_right _ hb)) fun a u z => n a u (List.mem_cons_of_mem _ z))
  | _, _, .cell h _ r, k, n => absurd List.mem_cons_self (n _ _)
theorem Good.shareAll (g : Good K cl R H L) (n : ∀ a u, Item.cell a u ∉ L) : Good K cl H H (L.map shI) := by
  obtain ⟨P, f, a, b, c, nd, e⟩ := g
  exact ⟨H, [], Ex.refl H, Ex.refl H, (fun _ z => nomatch z), List.nodup_nil, e.shareAll b (fun _ _ => rfl) n⟩
/-- shared ones may be told twice -/
theorem Good.dup (g : Good K cl R H (.val v d .sh :: L)) : Good K cl R H (.val v d .sh :: .val v d .sh :: L) := by
  obtain ⟨P, f, a, b, c, n, e⟩ := g
  cases e with
  | val h r =>
    cases h with
    | sh h => exact ⟨P, _, a, b, c, n, .val (f := []) (.sh h) (.val (f := []) (.sh h) r)⟩
/-! flat data -/
inductive Flat : V → D → Prop
  | non : Flat .non .non
  | bl (b : Bool) : Flat (.bl b) (.bl b)
  | int (i : Int) : Flat (.int i) (.int i)
  | str (s : Str) : Flat (.str s) (.str s)
theorem Flat.rs (h : Flat v d) : Rs K cl P v d := by
  cases h with
  | non => exact .non
  | bl b => exact .bl b
  | int i => exact .int i
  | str s => exact .str s
theorem Good.flat (g : Good K cl R H L) (h : Flat v d) : Good K cl R H (.val v d .sh :: L) := by
  obtain ⟨P, f, a, b, c, n, e⟩ := g
  exact ⟨P, f, a, b, c, n, .val (f := []) (.sh h.rs) e⟩
/-! cells -/
theorem Good.alloc (g : Good K cl R H L) (h : H a = none) (nx : nxB u = true := by rfl) : Good K cl R (upd H a u) (.cell a u :: L) := by
  obtain ⟨P, f, r1, r2, c, n, e⟩ := g
  have nf : a ∉ f := fun hf => by
    obtain ⟨w, hw⟩ := e.there a hf
    rw [h] at hw; cases hw
  refine ⟨P, a :: f, r1, r2.trans (Ex.new h), fun b hb => ?_, List.nodup_cons.mpr ⟨nf, n⟩, .cell upd_same nx (e.mono (Ex.refl P) fun b _ w hw => Ex.new h b w hw)⟩
  rcases List.mem_cons.mp hb with rfl | hb
  · cases q : P b with
    | none => rfl
    | some w =>
      rw [r2 b w q] at h; cases h
  · exact c b hb
theorem Good.cellAt (g : Good K cl R H (.cell a u :: L)) : H a = some u := by
  obtain ⟨P, f, r1, r2, c, n, e⟩ := g
  cases e with
  | cell h _ r => exact h
theorem Good.write (g : Good K cl R H (.cell a u :: L)) (nx : nxB u' = true := by rfl) : Good K cl R (upd H a u') (.cell a u' :: L) := by
  obtain ⟨P, f, r1, r2, c, n, e⟩ := g
  cases e with
  | cell h _ r =>
    have n' := List.nodup_cons.mp n
    have na : P a = none := c a List.mem_cons_self
    refine ⟨P, _, r1, fun b w hw => ?_, c, n, .cell upd_same nx (r.mono (Ex.refl P) fun b hb w hw => ?_)⟩
    · rw [upd_ne (ne_of_none hw na)]
      exact r2 b w hw
    · have hne : b ≠ a := fun z => n'.1 (by rw [← z]; exact hb)
      rw [upd_ne hne]
      exact hw
/-! ### packing: cells and children make a datum -/
def vals : List V → List D → List O → List Item
  | v :: vs, d :: ds, o :: os => .val v d o :: vals vs ds os
  | _, _, _ => []
theorem Its.ofRos : ∀ {vs : List V} {ds : List D} {os : List O} {f : List Addr}, Ros K cl P H vs ds os f → Its K cl P H (vals vs ds os) f
  | _, _, _, _, .nil => .nil
  | _, _, _, _, .cons h r => .val h (Its.ofRos r)
theorem Its.toRos : ∀ {vs : List V} {ds : List D} {os : List O} {f : List Addr}, vs.length = ds.length → ds.length = os.length → Its K cl P H (vals vs ds os) f → Ros K cl P H vs ds os f
  | [], [], [], _, _, _, .nil => .nil
  | v :: vs, d :: ds, o :: os, _, h1, h2, .val h r => .cons h (Its.toRos (Nat.succ.inj h1) (Nat.succ.inj h2) r)
/-- all shared -/
def shs (vs : List V) (ds : List D) : List Item := vals vs ds (ds.map fun _ => .sh)
theorem Its.ofRss : ∀ {vs : List V} {ds : List D}, Rss K cl P vs ds → Its K cl P H (shs vs ds) []
  | _, _, .nil => .nil
  | _, _, .cons h r => .val (f := []) (g := []) (.sh h) (Its.ofRss r)
theorem Its.toRss : ∀ {vs : List V} {ds : List D} {f : List Addr}, vs.length = ds.length → Its K cl P H (shs vs ds) f → f = [] ∧ Rss K cl P vs ds
  | [], [], _, _, .nil => ⟨rfl, .nil⟩
  | v :: vs, d :: ds, _, hl, .val h r => by
    cases h with
    | sh h =>
      obtain ⟨rfl, r'⟩ := Its.toRss (Nat.succ.inj hl) r
      exact ⟨rfl, .cons h r'⟩
theorem Rss.length : ∀ {vs : List V} {ds : List D}, Rss K cl P vs ds → vs.length = ds.length
  | _, _, .nil => rfl
  | _, _, .cons _ r => by rw [List.length_cons, List.length_cons, Rss.length r]
theorem Ros.length : ∀ {vs : List V} {ds : List D} {os : List O} {f : List Addr}, Ros K cl P H vs ds os f → vs.length = ds.length ∧ ds.length = os.length
  | _, _, _, _, .nil => ⟨rfl, rfl⟩
  | _, _, _, _, .cons _ r => by have := Ros.length r; simp [this.1, this.2]
/-! what is held is no exception's dict -/
mutual
theorem Ro.nxs : ∀ {v : V} {d : D} {o : O} {f : List Addr}, Ro K cl P H v d o f → ∀ b ∈ f, ∀ w, H b = some w → nxB w = true
  | _, _, _, _, .sh _, _, hb, _, _ => nomatch hb
  | _, _, _, _, .lstR h _, b, hb, w, e => by rcases List.mem_cons.mp hb with rfl | hb; · rw [h] at e; cases e; rfl
                                             · exact nomatch hb
  | _, _, _, _, .tupR h _, b, hb, w, e => by rcases List.mem_cons.mp hb with rfl | hb; · rw [h] at e; cases e; rfl
                                             · exact nomatch hb
  | _, _, _, _, .dicR h _ _, b, hb, w, e => by rcases List.mem_cons.mp hb with rfl | hb; · rw [h] at e; cases e; rfl
                                               · exact nomatch hb
  | _, _, _, _, .objR h _ _, b, hb, w, e => by rcases List.mem_cons.mp hb with rfl | hb; · rw [h] at e; cases e; rfl
                                               · exact nomatch hb
  | _, _, _, _, .lstN h r, b, hb, w, e => by rcases List.mem_cons.mp hb with rfl | hb; · rw [h] at e; cases e; rfl
                                             · exact Ros.nxs r b hb w e
  | _, _, _, _, .tupN h r, b, hb, w, e => by rcases List.mem_cons.mp hb with rfl | hb; · rw [h] at e; cases e; rfl
                                             · exact Ros.nxs r b hb w e
  | _, _, _, _, .objN h _ r, b, hb, w, e => by rcases List.mem_cons.mp hb with rfl | hb; · rw [h] at e; cases e; rfl
                                               · exact Ros.nxs r b hb w e
theorem Ros.nxs : ∀ {vs : List V} {ds : List D} {os : List O} {f : List Addr}, Ros K cl P H vs ds os f → ∀ b ∈ f, ∀ w, H b = some w → nxB w = true
  | _, _, _, _, .nil, _, hb, _, _ => nomatch hb
  | _, _, _, _, .cons h r, b, hb, w, e => (List.mem_append.mp hb).elim (fun z => Ro.nxs h b z w e) fun z => Ros.nxs r b z w e
end
theorem Its.nxs : ∀ {L : List Item} {f : List Addr}, Its K cl P H L f → ∀ b ∈ f, ∀ w, H b = some w → nxB w = true
  | _, _, .nil, _, hb, _, _ => nomatch hb
  | _, _, .val h r, b, hb, w, e => (List.mem_append.mp hb).elim (fun z => h.nxs b z w e) fun z => Its.nxs r b z w e
  | _, _, .cell h n r, b, hb, w, e => by
    rcases List.mem_cons.mp hb with rfl | hb
    · rw [h] at e; cases e; exact n
    · exact Its.nxs r b hb w e
/-- an exception's dict stands for good -/
theorem Good.xd {dx : Addr} {fs : List (Str × V)} (g : Good K cl R H L) (h : H dx = some (.xd fs)) : ∃ R', Ex R R' ∧ R' dx = some (.xd fs) ∧ Good K cl R' H L := by
  obtain ⟨P, f, r1, r2, c, n, e⟩ := g
  have nf : dx ∉ f := fun z => by
    have := e.nxs dx z _ h
    cases this
  by_cases hP : P dx = some (.xd fs)
  · exact ⟨P, r1, hP, P, f, Ex.refl P, r2, c, n, e⟩
  · have hn : P dx = none := by
      cases q : P dx with
      | none => rfl
      | some w =>
        rw [r2 dx w q] at h
        cases h
        exact absurd q hP
    refine ⟨upd P dx (.xd fs), r1.trans (Ex.new hn), upd_same, upd P dx (.xd fs), f, Ex.refl _, fun b w hw => ?_, fun b hb => ?_, n, e.mono (Ex.new hn) fun _ _ _ q => q⟩
    · by_cases hb : b = dx
      · subst hb
        rw [upd_same] at hw
        cases hw
        exact h
      · rw [upd_ne hb] at hw
        exact r2 b w hw
    · have hne : b ≠ dx := fun z => by
        subst z
        exact nf hb
      rw [upd_ne hne]
      exact c b hb
end
end FB
namespace FB
open PySem L2

abbrev FEnv := List (Option DO)
/-- an exception: its class, its fields -/
structure Exn where
  c : Nat
  fs : List Str := []
  ds : List D := []
/-- what a call comes to; io: what the held arguments are then -/
inductive Rt where
  | ok (d : D) (o : O) (io : List DO)
  | exc (x : Exn) (io : List DO)
  | stuck
inductive Ty where
  | int | bool | str | list | tuple | dict | cls (c : Nat)
  deriving DecidableEq
/-- what kind a datum is -/
inductive Kd where
  | non | bl | int | str | lst | tup | dic | obj (c : Nat)
  deriving DecidableEq
structure Pg where
  fn : Nat → List DO → Rt
  mak : Nat → List DO → Rt
  mth : Nat → Str → Option Nat
  att : Nat → Str → Bool
  iof : Nat → List Nat
  sub : Nat → Nat → Option Bool
  isk : Kd → Ty → Option Bool
  gl : Nat → D
  tb : Nat → List (Str × Int)
  fuel : Nat
  cur : Option Exn
inductive Ev (α : Type) where
  | ok (a : α) (ρ : FEnv)
  | exc (x : Exn) (ρ : FEnv)
  | stuck
def Ev.bind {α β : Type} : Ev α → (α → FEnv → Ev β) → Ev β
  | .ok a ρ, f => f a ρ
  | .exc x ρ, _ => .exc x ρ
  | .stuck, _ => .stuck
/-- built-in functions and classes called -/
inductive Bi where
  | len | list | tuple | dict | int | str | max | min | sum | all | any | sorted | set | repr
  deriving DecidableEq
/-- methods of built-in types that change nothing -/
inductive Bm where
  | get | bitlen | split | join | startswith | endswith | ljust | replace | count | index
  deriving DecidableEq
/-- methods of built-in types that change their object -/
inductive Mu where
  | append | extend | pop | clear | clearD
  deriving DecidableEq
inductive PStep where
  | fld (f : Str) | idx (n : Nat)
  deriving DecidableEq

/-- tests of a caught exception -/
inductive XB where
  | is (k : Nat)
  | not (a : XB)
  | and (a b : XB)
mutual
inductive E where
  | v (i : Nat)
  | hold (i : Nat)
  | k (c : Const)
  | g (n : Nat)
  | bor (e : E)
  | rd (i : Nat) (f : Str)
  | ixv (i : Nat) (e : E)
  | bin (op : Operator) (a b : E)
  | un (op : UnaryOp) (a : E)
  | bnot (a : E)
  | band (a b : E)
  | bor2 (a b : E)
  | cmp (op : CmpOp) (a b : E)
  | chain (o1 o2 : CmpOp) (a b c : E)
  | ife (t : T) (a b : E)
  | lst (es : Es)
  | tup (es : Es)
  | dic (ks : List Key) (es : Es)
  | ix (a i : E)
  | sl (a : E) (hl : Bool) (lo : E) (hh : Bool) (hi : E)
  | fld (a : E) (f : Str)
  | call (f : Nat) (es : Es) (df : List Const) (bk : List (Option Nat))
  | mk (c : Nat) (es : Es) (df : List Const)
  | mth (o : E) (m : Str) (es : Es) (df : List Const) (bk : List (Option Nat))
  | mthI (i : Nat) (m : Str) (es : Es) (df : List Const) (bk : List (Option Nat))
  | bi (b : Bi) (es : Es)
  | bm (m : Bm) (o : E) (es : Es)
  | kget (n : Nat) (e : E) (c : Int)
  | isi (a : E) (t : Ty)
  | isi2 (a : E) (t t2 : Ty)
  | borL (e : E)
  | borK (e : E)
  | mutT (m : Mu) (e : E) (es : Es)
  | mutL (i : Nat) (m : Mu) (es : Es)
  | shr (e : E)
  | mut (i : Nat) (p : List PStep) (m : Mu) (es : Es)
  | mutR (i : Nat) (p : List PStep) (m : Mu) (f : Str)
  | lc (js : List Nat) (tp : Bool) (it : It) (c : T) (hc : Bool) (e : E)
  | lcX (js : List Nat) (tp : Bool) (it : It) (c : T) (hc : Bool) (e : E)
inductive Es where
  | nil
  | cons (e : E) (es : Es)
  | consL (i : Nat) (es : Es)
inductive T where
  | e (a : E)
  | and (a b : T)
  | or (a b : T)
  | not (a : T)
  | bor (a : T)
inductive It where
  | e (a : E)
  | rng1 (a : E)
  | rng2 (a b : E)
  | enum (a : E) (st : Int)
  | enumT (a : E)
  | zip (a b : E)
  | items (a : E)
  | keys (a : E)
end
mutual
inductive S where
  | asg (i : Nat) (e : E)
  | unp (is : List Nat) (e : E)
  | unpO (is : List Nat) (e : E)
  | seti (i : Nat) (p : List PStep) (ix e : E)
  | setd (i : Nat) (p : List PStep) (ix e : E)
  | setf (i : Nat) (f : Str) (e : E)
  | ex (e : E)
  | ite (t : T) (a b : Ss)
  | whl (t : T) (b : Ss)
  | for1 (js : List Nat) (tp : Bool) (it : It) (b : Ss)
  | forD (js : List Nat) (tp im : Bool) (e : E) (b : Ss)
  | forH (js : List Nat) (tp : Bool) (i : Nat) (b : Ss)
  | forN (j : Nat) (js : List Nat) (it : It) (b : Ss)
  | ret (e : E)
  | retN
  | rais (c : Nat) (e : E) (own : Bool)
  | tryc (b : Ss) (hs : Hs)
  | asgX (i : Nat) (b : XB)
  | raisF (c : Nat) (f : Str) (e : E)
  | asgXF (i : Nat) (c : Const) (f : Str)
  | asgX2 (i : Nat) (b : XB)
  | brk
  | cont
  | pass
  | no
inductive Ss where
  | nil
  | cons (s : S) (ss : Ss)
inductive Hs where
  | nil
  | cons (c : Nat) (i : Option Nat) (b : Ss) (hs : Hs)
end
inductive Fl where
  | nx (ρ : FEnv) | br (ρ : FEnv) | ct (ρ : FEnv) | rt (d : D) (o : O) (ρ : FEnv) | exc (x : Exn) (ρ : FEnv) | stuck
/-- no exception leaves it -/
def noX : Fl → Fl
  | .exc _ _ => .stuck
  | r => r
def Fl.seq : Fl → (FEnv → Fl) → Fl
  | .nx ρ, f => f ρ
  | r, _ => r
def Ev.fl {α : Type} : Ev α → (α → FEnv → Fl) → Fl
  | .ok a ρ, f => f a ρ
  | .exc x ρ, _ => .exc x ρ
  | .stuck, _ => .stuck

/-! ### values -/
def keyV : Key → D
  | .inl i => .int i
  | .inr s => .str s
/-- what a loop over a dict, or over its items, goes over -/
def dItems (im : Bool) (ks : List Key) (ds : List D) : List D := if im then (ks.zip ds).map fun p => .tup [keyV p.1, p.2] else ks.map keyV
def kdOf : D → Kd
  | .non => .non
  | .bl _ => .bl
  | .int _ => .int
  | .str _ => .str
  | .lst _ => .lst
  | .frz _ => .lst
  | .tup _ => .tup
  | .dic _ _ => .dic
  | .obj c _ _ => .obj c

def O.isSh : O → Bool
  | .sh => true
  | _ => false
def mkO (os : List O) : O := if os.all O.isSh then .root else .node os
def D.flat : D → Bool
  | .non | .bl _ | .int _ | .str _ => true
  | _ => false
mutual
/-- nothing in it but what it holds, and flat ends -/
def ownD : D → O → Bool
  | .lst ds, .root => ds.all D.flat
  | .tup ds, .root => ds.all D.flat
  | .dic _ ds, .root => ds.all D.flat
  | .obj _ _ ds, .root => ds.all D.flat
  | .lst ds, .node os => ownDs ds os
  | .tup ds, .node os => ownDs ds os
  | .obj _ _ ds, .node os => ownDs ds os
  | .non, .sh | .bl _, .sh | .int _, .sh | .str _, .sh => true
  | _, _ => false
def ownDs : List D → List O → Bool
  | [], [] => true
  | d :: ds, o :: os => ownD d o && ownDs ds os
  | _, _ => false
end
mutual
/-- no list and no dict in it -/
def keptK : D → Bool
  | .non | .bl _ | .int _ | .str _ => true
  | .tup ds => keptKs ds
  | .obj _ _ ds => keptKs ds
  | _ => false
def keptKs : List D → Bool
  | [] => true
  | d :: ds => keptK d && keptKs ds
end
mutual
/-- what it shares has no list and no dict in it -/
def leafK : D → O → Bool
  | d, .sh => keptK d
  | .lst ds, .root => keptKs ds
  | .tup ds, .root => keptKs ds
  | .dic _ ds, .root => keptKs ds
  | .obj _ _ ds, .root => keptKs ds
  | .lst ds, .node os => leafKs ds os
  | .tup ds, .node os => leafKs ds os
  | .obj _ _ ds, .node os => leafKs ds os
  | _, _ => false
def leafKs : List D → List O → Bool
  | [], [] => true
  | d :: ds, o :: os => leafK d o && leafKs ds os
  | _, _ => false
end
mutual
/-- what it holds are lists and dicts -/
def heldL : D → O → Bool
  | _, .sh => true
  | .lst _, .root => true
  | .dic _ _, .root => true
  | .lst ds, .node os => heldLs ds os
  | _, _ => false
def heldLs : List D → List O → Bool
  | [], [] => true
  | d :: ds, o :: os => heldL d o && heldLs ds os
  | _, _ => false
end
def envL : FEnv → Bool
  | [] => true
  | some (d, o) :: ρ => heldL d o && envL ρ
  | none :: ρ => envL ρ
def isk2 (isk : Kd → Ty → Option Bool) (k : Kd) (t1 t2 : Ty) : Option Bool := match isk k t1, isk k t2 with
  | some a, some b => some (a || b)
  | _, _ => none
def constD : Const → Option D
  | .none => some .non
  | .bool b => some (.bl b)
  | .int i => some (.int i)
  | .str s => some (.str s)
  | _ => none
mutual
/-- as data (no objects, no dicts) -/
def toPy : D → Option PyData
  | .non => some .none
  | .bl b => some (.bool b)
  | .int i => some (.int i)
  | .str s => some (.str s)
  | .lst ds => (toPys ds).map .list
  | .tup ds => (toPys ds).map .tuple
  | .frz ds => (toPys ds).map .list
  | .dic _ _ => none
  | .obj _ _ _ => none
def toPys : List D → Option (List PyData)
  | [] => some []
  | d :: ds => match toPy d, toPys ds with
    | some p, some ps => some (p :: ps)
    | _, _ => none
end
def eqD (a b : D) : Option Bool := match toPy a, toPy b with
  | some p, some q => if min p.depth q.depth ≤ 60 then some (PyData.eqv p q) else none
  | _, _ => none
def cutL {α : Type} (xs : List α) (lo hi : Option Int) : List α := (xs.drop (HT.sIx xs.length 0 lo)).take (HT.sIx xs.length xs.length hi - HT.sIx xs.length 0 lo)
def small64 (i : Int) : Bool := decide (-18446744073709551616 < i) && decide (i < 18446744073709551616)
def binD : Operator → D → D → Option DO
  | .Add, .int i, .int j => some (.int (i + j), .sh)
  | .Add, .lst a, .lst b => if a.length + b.length ≤ 16000000 then some (.lst (a ++ b), .root) else none
  | .Add, .tup a, .tup b => if a.length + b.length ≤ 16000000 then some (.tup (a ++ b), .sh) else none
  | .Add, .str a, .str b => if a.length + b.length ≤ 16000000 then some (.str (a ++ b), .sh) else none
  | .Sub, .int i, .int j => some (.int (i - j), .sh)
  | .Mult, .int i, .int j => if small64 i || small64 j then some (.int (i * j), .sh) else none
  | .Mult, .lst a, .int k => if k.toNat < 16000000 ∧ a.length * k.toNat ≤ 16000000 ∧ 0 ≤ k then some (.lst (List.replicate k.toNat a).flatten, .root) else none
  | .FloorDiv, .int i, .int j => if 0 < j ∧ j < 1073741824 then some (.int (i / j), .sh) else none
  | .Mod, .int i, .int j => if 0 < j then some (.int (i % j), .sh) else none
  | .Pow, .int i, .int j => if 0 ≤ j ∧ j ≤ 1000000 ∧ i.natAbs < 18446744073709551616 then some (.int (i ^ j.toNat), .sh) else none
  | .LShift, .int i, .int j => if 0 ≤ j ∧ i.natAbs.log2 + j.toNat ≤ 1000000 then some (.int (i * 2 ^ j.toNat), .sh) else none
  | .RShift, .int i, .int j => if 0 ≤ j then some (.int (i / 2 ^ j.toNat), .sh) else none
  | .BitAnd, .int i, .int j => some (.int (Builtin.bitAnd i j), .sh)
  | .BitOr, .int i, .int j => some (.int (Builtin.bitOr i j), .sh)
  | .BitXor, .int i, .int j => some (.int (Builtin.bitXor i j), .sh)
  | _, _, _ => none
def unD : UnaryOp → D → Option D
  | .USub, .int i => some (.int (-i))
  | .Invert, .int i => some (.int (Builtin.bitNot i))
  | _, _ => none
def keyD : D → Option Key
  | .int i => some (.inl i)
  | .str s => some (.inr s)
  | _ => none
def dicGet : List Key → List D → Key → Option D
  | k :: ks, d :: ds, x => if k = x then some d else dicGet ks ds x
  | _, _, _ => none
def inL (x : D) (ds : List D) : Option Bool := match toPy x, toPys ds with
  | some p, some ps => if p.depth ≤ 60 then some (ps.any fun y => PyData.eqv y p) else none
  | _, _ => none
def inD (x : D) : D → Option Bool
  | .lst ds => inL x ds
  | .tup ds => inL x ds
  | .dic ks ds => (keyD x).map fun k => (dicGet ks ds k).isSome
  | .str s => (match x with
    | .str t => if t.length = 1 then some (decide (t.cps.getD 0 0 ∈ s.cps.toList)) else none
    | _ => none)
  | _ => none
def D.isNon : D → Bool
  | .non => true
  | _ => false
def isB : D → Bool → Bool
  | .bl a, b => a == b
  | _, _ => false
def sameF : D → D → Bool
  | .non, .non => true
  | .bl a, .bl b => a == b
  | .int a, .int b => a == b
  | .str a, .str b => a == b
  | _, _ => false
/-- dicts of the same keys with the same flat values -/
def sameDic (ks : List Key) (ds : List D) (ls : List Key) (es : List D) : Bool := ks.length == ls.length && (ks.zip ds).all fun p => match dicGet ls es p.1 with
  | some e => sameF p.2 e
  | none => false
def eqDD : D → D → Option Bool
  | .dic ks ds, .dic ls es => if sameDic ks ds ls es then some true else none
  | a, b => eqD a b
def cmpD : CmpOp → D → D → Option Bool
  | .Lt, .int i, .int j => some (decide (i < j))
  | .LtE, .int i, .int j => some (decide (i ≤ j))
  | .Gt, .int i, .int j => some (decide (j < i))
  | .GtE, .int i, .int j => some (decide (j ≤ i))
  | .Eq, a, b => eqDD a b
  | .NotEq, .lst (.obj _ _ _ :: _), .lst [] => some true
  | .NotEq, a, b => (eqDD a b).map (!·)
  | .Is, a, .non => some a.isNon
  | .Is, a, .bl b => some (isB a b)
  | .IsNot, a, .non => some (!a.isNon)
  | .IsNot, a, .bl b => some (!(isB a b))
  | .In, a, b => inD a b
  | .NotIn, a, b => (inD a b).map (!·)
  | _, _, _ => none
/-- a value's truth -/
def truD : D → Option Bool
  | .non => some false
  | .bl b => some b
  | .int i => some (i != 0)
  | .str s => if s.length ≤ 16000000 then some ((s.length : Int) != 0) else none
  | .lst ds => some (!ds.isEmpty)
  | .tup ds => some (!ds.isEmpty)
  | _ => none
def lookF : List Str → List D → Str → Option D
  | k :: ks, d :: ds, x => if x = k then some d else lookF ks ds x
  | _, _, _ => none
def putFs : List Str → Str → List Str
  | [], x => [x]
  | k :: ks, x => if k = x then k :: ks else k :: putFs ks x
def putDs : List Str → List D → Str → D → List D
  | k :: ks, d :: ds, x, y => if k = x then y :: ds else d :: putDs ks ds x y
  | _, _, _, y => [y]
def putOs : List Str → List O → Str → O → List O
  | k :: ks, d :: ds, x, y => if k = x then y :: ds else d :: putOs ks ds x y
  | _, _, _, y => [y]
def b01 (b : Bool) : Int := if b then 1 else 0
def ixD (a : D) (i : D) : Option D := match a, i with
  | .lst ds, .int i => atI ds i
  | .lst ds, .bl b => ds[(b01 b).toNat]?
  | .tup ds, .int i => atI ds i
  | .frz ds, .int i => atI ds i
  | .str s, .int i => if s.length ≤ 16000000 then (atI s.cps.toList i).map fun c => .str ⟨#[c]⟩ else none
  | .dic ks ds, k => (keyD k).bind (dicGet ks ds)
  | _, _ => none
def slD (a : D) (lo hi : Option Int) : Option DO := match a with
  | .lst ds => some (.lst (cutL ds lo hi), .root)
  | .frz ds => some (.lst (cutL ds lo hi), .root)
  | .tup ds => some (.tup (cutL ds lo hi), .sh)
  | .str s => if s.length ≤ 16000000 then some (.str (cutS s lo hi), .sh) else none
  | _ => none
def allBl : List D → Option (List Bool)
  | [] => some []
  | .bl b :: ds => (allBl ds).map (b :: ·)
  | _ => none
def allInt : List D → Option (List Int)
  | [] => some []
  | .int b :: ds => (allInt ds).map (b :: ·)
  | _ => none
/-- truths of ints and bools -/
def allTru : List D → Option (List Bool)
  | [] => some []
  | .bl b :: ds => (allTru ds).map (b :: ·)
  | .int i :: ds => (allTru ds).map ((i != 0) :: ·)
  | _ => none
def seqD : D → Option (List D)
  | .lst ds => some ds
  | .tup ds => some ds
  | .frz ds => some ds
  | _ => none
def keyInts : List Key → Option (List Int)
  | [] => some []
  | .inl i :: ks => (keyInts ks).map (i :: ·)
  | _ => none
def insI (x : Int) : List Int → List Int
  | [] => [x]
  | y :: ys => if x ≤ y then x :: y :: ys else y :: insI x ys
/-- ints put in order -/
def sortI : List Int → List Int
  | [] => []
  | x :: xs => insI x (sortI xs)
/-- the greatest of ints -/
def maxI : List Int → Option Int
  | [] => none
  | i :: is => some (is.foldl (fun a b => if b > a then b else a) i)
def biD : Bi → List D → Option DO
  | .len, [.lst ds] => some (.int ds.length, .sh)
  | .len, [.tup ds] => some (.int ds.length, .sh)
  | .len, [.frz ds] => some (.int ds.length, .sh)
  | .len, [.dic ks _] => some (.int ks.length, .sh)
  | .len, [.str s] => if s.length ≤ 16000000 then some (.int s.length, .sh) else none
  | .list, [.lst ds] => some (.lst ds, .root)
  | .list, [.tup ds] => some (.lst ds, .root)
  | .list, [.frz ds] => some (.lst ds, .root)
  | .tuple, [.lst ds] => some (.tup ds, .sh)
  | .tuple, [.tup ds] => some (.tup ds, .sh)
  | .dict, [.dic ks ds] => some (.dic ks ds, .root)
  | .int, [.int i] => some (.int i, .sh)
  | .int, [.bl b] => some (.int (if b then 1 else 0), .sh)
  | .str, [.int i] => if i.natAbs.log2 < 1920 then some (.str (toString i), .sh) else none
  | .max, [.int i, .int j] => some (.int (if j > i then j else i), .sh)
  | .max, [.lst ds] => ((allInt ds).bind maxI).map fun m => (.int m, .sh)
  | .min, [.int i, .int j] => some (.int (if j < i then j else i), .sh)
  | .sum, [.lst ds] => (allInt ds).map fun is => (.int is.sum, .sh)
  | .all, [.lst ds] => (allTru ds).map fun bs => (.bl (bs.all id), .sh)
  | .any, [.lst ds] => (allTru ds).map fun bs => (.bl (bs.any id), .sh)
  | .sorted, [.dic ks _] => (keyInts ks).bind fun is => if is.length < 64 then some (.lst ((sortI is).map .int), .root) else none
  | _, _ => none
def eqF : D → D → Bool
  | .non, .non => true
  | .bl a, .bl b => a == b
  | .bl a, .int b => (if a then 1 else 0) == b
  | .int a, .bl b => a == (if b then 1 else 0)
  | .int a, .int b => a == b
  | .str a, .str b => a == b
  | _, _ => false
def bmD : Bm → D → List D → Option DO
  | .get, .dic ks ds, [k] => (keyD k).map fun k => ((dicGet ks ds k).getD .non, .sh)
  | .get, .dic ks ds, [k, d] => (keyD k).map fun k => ((dicGet ks ds k).getD d, .sh)
  | .count, .lst ds, [d] => if d.flat && ds.all D.flat then some (.int (ds.countP fun z => eqF z d : Nat), .sh) else none
  | .index, .lst ds, [d] => if d.flat && ds.all D.flat then (ds.findIdx? fun z => eqF z d).map fun j => (.int (j : Nat), .sh) else none
  | .bitlen, .int i, [] => some (.int (Builtin.Int.intBits i : Nat), .sh)
  | _, _, _ => none
def bmTy : Bm → D → Bool
  | .get, .dic _ _ => true
  | .bitlen, .int _ => true
  | .count, .lst _ => true
  | .index, .lst _ => true
  | .split, .str _ => true
  | .join, .str _ => true
  | .startswith, .str _ => true
  | .endswith, .str _ => true
  | .ljust, .str _ => true
  | .replace, .str _ => true
  | _, _ => false
/-- what is held at a path: the part, then the whole with another part there -/
def getAt (att : Nat → Str → Bool) : List PStep → DO → Option DO
  | [], x => some x
  | .idx n :: p, (.tup ds, .node os) => (match ds[n]?, os[n]? with
    | some d, some o => getAt att p (d, o)
    | _, _ => none)
  | .idx n :: p, (.lst ds, .node os) => (match ds[n]?, os[n]? with
    | some d, some o => getAt att p (d, o)
    | _, _ => none)
  | .fld f :: p, (.obj c fs ds, .node os) => if att c f then (match lookF fs ds f, fs.findIdx? (· == f) with
    | some d, some n => (match os[n]? with
      | some o => getAt att p (d, o)
      | none => none)
    | _, _ => none) else none
  | .idx n :: p, (.tup ds, _) => (match ds[n]? with
    | some d => getAt att p (d, .sh)
    | _ => none)
  | .idx n :: p, (.lst ds, _) => (match ds[n]? with
    | some d => getAt att p (d, .sh)
    | _ => none)
  | .fld f :: p, (.obj c fs ds, .sh) => if att c f then (match lookF fs ds f with
    | some d => getAt att p (d, .sh)
    | _ => none) else none
  | .fld f :: p, (.obj c fs ds, .root) => if att c f then (match lookF fs ds f with
    | some d => getAt att p (d, .sh)
    | _ => none) else none
  | _, _ => none
def setAt : List PStep → DO → DO → Option DO
  | [], _, y => some y
  | .idx n :: p, (.tup ds, .node os), y => (match ds[n]?, os[n]? with
    | some d, some o => (match setAt p (d, o) y with
      | some (d', o') => some (.tup (ds.set n d'), .node (os.set n o'))
      | none => none)
    | _, _ => none)
  | .idx n :: p, (.lst ds, .node os), y => (match ds[n]?, os[n]? with
    | some d, some o => (match setAt p (d, o) y with
      | some (d', o') => some (.lst (ds.set n d'), .node (os.set n o'))
      | none => none)
    | _, _ => none)
  | .fld f :: p, (.obj c fs ds, .node os), y => (match lookF fs ds f, fs.findIdx? (· == f) with
    | some d, some n => (match os[n]? with
      | some o => (match setAt p (d, o) y with
        | some (d', o') => some (.obj c fs (ds.set n d'), .node (os.set n o'))
        | none => none)
      | none => none)
    | _, _ => none)
  | _, _, _ => none
/-- methods that change: what comes back, what the object is then; the arguments are shared -/
def muD : Mu → D → List D → Option (D × D)
  | .append, .lst ds, [d] => if ds.length < 16000000 then some (.non, .lst (ds ++ [d])) else none
  | .extend, .lst ds, [.lst es] => if ds.length + es.length ≤ 16000000 then some (.non, .lst (ds ++ es)) else none
  | .pop, .lst ds, [] => (match ds.getLast? with
    | some d => some (d, .lst ds.dropLast)
    | none => none)
  | .clear, .lst _, [] => some (.non, .lst [])
  | .clearD, .dic _ _, [] => some (.non, .dic [] [])
  | _, _, _ => none
def tyM : Mu → D → Bool
  | .clearD, .dic _ _ => true
  | .clearD, _ => false
  | _, .lst _ => true
  | _, _ => false
def dicPutK : List Key → Key → List Key
  | [], x => [x]
  | k :: ks, x => if k = x then k :: ks else k :: dicPutK ks x
def putG {α : Type} : List Key → List α → Key → α → List α
  | k :: ks, d :: ds, x, y => if k = x then y :: ds else d :: putG ks ds x y
  | _, _, _, y => [y]
/-- o[i] = y -/
def setD : D → D → D → Option D
  | .lst ds, .int i, y => (ixN ds.length i).map fun j => .lst (ds.set j y)
  | _, _, _ => none

/-! ### environments -/
def rdV (i : Nat) (ρ : FEnv) : Ev DO := match ρ[i]? with
  | some (some (d, .sh)) => .ok (d, .sh) ρ
  | some (some (d, _)) => .ok (d, .sh) (ρ.set i (some (d, .sh)))
  | _ => .stuck
/-- a held object's field, shared from then on -/
def rdF (att : Nat → Str → Bool) (i : Nat) (f : Str) (ρ : FEnv) : Ev DO := match ρ[i]? with
  | some (some (.obj c fs ds, .node os)) => if att c f then (match lookF fs ds f, fs.findIdx? (· == f) with
    | some d, some n => .ok (d, .sh) (ρ.set i (some (.obj c fs ds, .node (os.set n .sh))))
    | _, _ => .stuck) else .stuck
  | some (some (.obj c fs ds, .root)) => if att c f then (match lookF fs ds f, fs.findIdx? (· == f) with
    | some d, some _ => .ok (d, .sh) ρ
    | _, _ => .stuck) else .stuck
  | _ => .stuck
def sharedEnv (ρ : FEnv) : FEnv := ρ.map fun x => x.map fun y => (y.1, .sh)
/-- the held arguments come back to their (empty) slots -/
def backIo : List (Option Nat) → List DO → FEnv → Option FEnv
  | some j :: bk, x :: io, ρ => (match ρ[j]? with
    | some none => backIo bk io (ρ.set j (some x))
    | _ => none)
  | none :: bk, _ :: io, ρ => backIo bk io ρ
  | [], [], ρ => some ρ
  | _, _, _ => none
/-- the slots that a call's held arguments go back to are theirs -/
def bkOk (hs : List (Option Nat)) : List Nat → List (Option Nat) → Bool
  | j :: js, some i :: bk => (hs[j]? == some (some i)) && bkOk hs js bk
  | _ :: js, none :: bk => bkOk hs js bk
  | [], [] => true
  | _, _ => false
def holdsOf : Es → List (Option Nat)
  | .nil => []
  | .cons (.hold i) es => some i :: holdsOf es
  | .consL i es => some i :: holdsOf es
  | .cons _ es => none :: holdsOf es
def ofRt (bk : List (Option Nat)) (ρ : FEnv) : Rt → Ev DO
  | .ok d o io => (match backIo bk io ρ with
    | some ρ' => .ok (d, o) ρ'
    | none => .stuck)
  | .exc x io => (match backIo bk io ρ with
    | some ρ' => .exc x ρ'
    | none => .stuck)
  | .stuck => .stuck
def opt {α β : Type} (o : Option α) (ρ : FEnv) (f : α → Ev β) : Ev β := match o with
  | some a => f a
  | none => .stuck
def dflt (df : List Const) : List DO := df.map fun c => ((constD c).getD .non, .sh)
/-- targets of a for or a comprehension -/
def bindTg : List Nat → Bool → D → FEnv → Option FEnv
  | [j], false, d, ρ => some (ρ.set j (some (d, .sh)))
  | js, true, .tup ds, ρ => if js.length = ds.length then some ((js.zip ds).foldl (fun ρ x => ρ.set x.1 (some (x.2, .sh))) ρ) else none
  | js, true, .lst ds, ρ => if js.length = ds.length then some ((js.zip ds).foldl (fun ρ x => ρ.set x.1 (some (x.2, .sh))) ρ) else none
  | _, _, _, _ => none
/-- a tuple's parts, each as it is owned -/
def bindO : List Nat → D → O → FEnv → Option FEnv
  | js, .tup ds, .node os, ρ => if js.length = ds.length ∧ ds.length = os.length then some ((js.zip (ds.zip os)).foldl (fun ρ x => ρ.set x.1 (some x.2)) ρ) else none
  | js, d, _, ρ => bindTg js true d ρ
def wipeE (ρ : FEnv) : List Nat → FEnv
  | [] => ρ
  | j :: js => (wipeE ρ js).set j none
/-- the slots js as they were -/
def putBack (ρ0 : FEnv) : List Nat → FEnv → FEnv
  | [], ρ => ρ
  | j :: js, ρ => (putBack ρ0 js ρ).set j (ρ0[j]?.getD none)
def lcLoop (body : D → FEnv → Ev (Option D)) : List D → FEnv → Ev (List D)
  | [], ρ => .ok [] ρ
  | x :: xs, ρ => match body x ρ with
    | .ok (some d) ρ1 => (match lcLoop body xs ρ1 with
      | .ok ds ρ2 => .ok (d :: ds) ρ2
      | _ => .stuck)
    | .ok none ρ1 => lcLoop body xs ρ1
    | _ => .stuck
/-- .. where an exception may leave it -/
def lcLoopX (body : D → FEnv → Ev (Option D)) : List D → FEnv → Ev (List D)
  | [], ρ => .ok [] ρ
  | x :: xs, ρ => match body x ρ with
    | .ok (some d) ρ1 => (match lcLoopX body xs ρ1 with
      | .ok ds ρ2 => .ok (d :: ds) ρ2
      | .exc x ρ2 => .exc x ρ2
      | .stuck => .stuck)
    | .ok none ρ1 => lcLoopX body xs ρ1
    | .exc x ρ1 => .exc x ρ1
    | .stuck => .stuck
/-- a comprehension's block at an item -/
def lcBody (js : List Nat) (tp : Bool) (c : Option (FEnv → Ev Bool)) (e : FEnv → Ev DO) : D → FEnv → Ev (Option D) := fun d ρ => match bindTg js tp d ρ with
  | some ρ2 => (match c with
    | some c => (c ρ2).bind fun b ρ3 => if b then (e ρ3).bind fun x ρ4 => .ok (some x.1) (wipeE ρ4 js) else .ok none (wipeE ρ3 js)
    | none => (e ρ2).bind fun x ρ4 => .ok (some x.1) (wipeE ρ4 js))
  | none => .stuck
def forLoop (body : D → FEnv → Fl) : List D → FEnv → Fl
  | [], ρ => .nx ρ
  | x :: xs, ρ => match body x ρ with
    | .nx ρ' => forLoop body xs ρ'
    | .ct ρ' => forLoop body xs ρ'
    | .br ρ' => .nx ρ'
    | r => r
def forBody (js : List Nat) (tp : Bool) (b : FEnv → Fl) : D → FEnv → Fl := fun d ρ => match bindTg js tp d ρ with
  | some ρ2 => b ρ2
  | none => .stuck
/-- for j, (js, ..) in .. -/
def bindN (j : Nat) (js : List Nat) : D → FEnv → Option FEnv
  | .tup [x, y], ρ => bindTg js true y (ρ.set j (some (x, .sh)))
  | _, _ => none
def forBodyN (j : Nat) (js : List Nat) (b : FEnv → Fl) : D → FEnv → Fl := fun d ρ => match bindN j js d ρ with
  | some ρ2 => b ρ2
  | none => .stuck
/-- a slot that was taken is given back -/
def backH (i : Nat) (x : DO) : Fl → Fl
  | .nx ρ => (match ρ[i]? with
    | some none => .nx (ρ.set i (some x))
    | _ => .stuck)
  | .rt d o ρ => (match ρ[i]? with
    | some none => .rt d o (ρ.set i (some x))
    | _ => .stuck)
  | .exc z ρ => (match ρ[i]? with
    | some none => .exc z (ρ.set i (some x))
    | _ => .stuck)
  | _ => .stuck
/-- a loop over a list that is held, which nobody touches meanwhile -/
def forHF (js : List Nat) (tp : Bool) (i : Nat) (b : FEnv → Fl) (ρ : FEnv) : Fl := match ρ[i]? with
  | some (some (.lst ds, .root)) => backH i (.lst ds, .root) (forLoop (forBody js tp b) ds (ρ.set i none))
  | _ => .stuck
def whLoop (t : FEnv → Ev Bool) (body : FEnv → Fl) : Nat → FEnv → Fl
  | 0, _ => .stuck
  | n + 1, ρ => (t ρ).fl fun b ρ1 => if b then (match body ρ1 with
    | .nx ρ' => whLoop t body n ρ'
    | .ct ρ' => whLoop t body n ρ'
    | .br ρ' => .nx ρ'
    | r => r) else .nx ρ1

def rangeD (lo hi : Int) : List D := (List.range (hi - lo).toNat).map fun i : Nat => .int (lo + i)
def inRange (i : Int) : Bool := decide (-1000000000 ≤ i) && decide (i ≤ 1000000000)

/-- o.m(e, ..) that changes o, which stands at a path of a slot (its slot is empty while the arguments come) -/
def mutF (att : Nat → Str → Bool) (i : Nat) (p : List PStep) (m : Mu) (fs : FEnv → Ev (List DO)) (ρ : FEnv) : Ev DO := match ρ[i]? with
  | some (some x) => (match getAt att p x with
    | some (d, .root) => if tyM m d then (fs (ρ.set i none)).bind fun xs ρ1 => opt (muD m d (xs.map (·.1))) ρ1 fun r => opt (setAt p x (r.2, .root)) ρ1 fun x' => (match ρ1[i]? with
      | some none => .ok (r.1, .sh) (ρ1.set i (some x'))
      | _ => .stuck) else .stuck
    | _ => .stuck)
  | _ => .stuck
/-- o.m(e, ..) that changes o, where the arguments may read o -/
def mutLF (i : Nat) (m : Mu) (fs : FEnv → Ev (List DO)) (ρ : FEnv) : Ev DO := match ρ[i]? with
  | some (some (d, .root)) => if tyM m d then (fs ρ).bind fun xs ρ1 => (match ρ1[i]? with
    | some (some (d1, .root)) => if tyM m d1 then opt (muD m d1 (xs.map (·.1))) ρ1 fun r => .ok (r.1, .sh) (ρ1.set i (some (r.2, .root))) else .stuck
    | _ => .stuck) else .stuck
  | _ => .stuck
/-- o.p.m(o.f) -/
def mutRF (att : Nat → Str → Bool) (i : Nat) (p : List PStep) (m : Mu) (f : Str) (ρ : FEnv) : Ev DO := (rdF att i f ρ).bind fun y ρ1 => mutF att i p m (fun ρ2 => .ok [y] ρ2) ρ1
/-- o[n] = y; the index comes with all shared -/
def setiF (att : Nat → Str → Bool) (i : Nat) (p : List PStep) (fn fy : FEnv → Ev DO) (ρ : FEnv) : Fl := (fy ρ).fl fun y ρ1 => (match ρ1[i]? with
  | some (some x) => (match getAt att p x with
    | some (d, .root) => (match fn (sharedEnv ρ1) with
      | .ok (n, _) _ => (match setD d n y.1 with
        | some d' => (match setAt p x (d', .root) with
          | some x' => .nx (ρ1.set i (some x'))
          | none => .stuck)
        | none => .stuck)
      | _ => .stuck)
    | _ => .stuck)
  | _ => .stuck)
/-- d[n] = y -/
def setdF (att : Nat → Str → Bool) (i : Nat) (p : List PStep) (fn fy : FEnv → Ev DO) (ρ : FEnv) : Fl := (fy ρ).fl fun y ρ1 => (match ρ1[i]? with
  | some (some x) => (match getAt att p x with
    | some (.dic ks ds, .root) => (match fn (sharedEnv ρ1) with
      | .ok (n, _) _ => (match keyD n with
        | some k => if ks.Nodup ∧ ks.length < 16000000 then (match setAt p x (.dic (dicPutK ks k) (putG ks ds k y.1), .root) with
          | some x' => .nx (ρ1.set i (some x'))
          | none => .stuck) else .stuck
        | none => .stuck)
      | _ => .stuck)
    | _ => .stuck)
  | _ => .stuck)
/-- o.f = y -/
def setfF (att : Nat → Str → Bool) (i : Nat) (f : Str) (fy : FEnv → Ev DO) (ρ : FEnv) : Fl := (fy ρ).fl fun y ρ1 => (match ρ1[i]? with
  | some (some (.obj c fs ds, .root)) => if att c f && decide (fs.length < 900) then .nx (ρ1.set i (some (.obj c (putFs fs f) (putDs fs ds f y.1), (if y.2.isSh then .root else .node (putOs fs (ds.map fun _ => .sh) f y.2))))) else .stuck
  | some (some (.obj c fs ds, .node os)) => if att c f && decide (fs.length < 900) then .nx (ρ1.set i (some (.obj c (putFs fs f) (putDs fs ds f y.1), .node (putOs fs os f y.2)))) else .stuck
  | _ => .stuck)
def evX (sub : Nat → Nat → Option Bool) (c : Nat) : XB → Option Bool
  | .is k => sub c k
  | .not a => (evX sub c a).map fun b => !b
  | .and a b => match evX sub c a with
    | some true => evX sub c b
    | some false => some false
    | none => none
/-- behind a suite the name is gone; nothing is raised in it -/
def endX (i : Option Nat) : Fl → Fl
  | .nx ρ => .nx (match i with
    | some i => ρ.set i none
    | none => ρ)
  | .br ρ => .br (match i with
    | some i => ρ.set i none
    | none => ρ)
  | .ct ρ => .ct (match i with
    | some i => ρ.set i none
    | none => ρ)
  | .rt d o ρ => .rt d o (match i with
    | some i => ρ.set i none
    | none => ρ)
  | _ => .stuck
mutual
def evE (pg : Pg) : E → FEnv → Ev DO
  | .v i, ρ => rdV i ρ
  | .hold i, ρ => (match ρ[i]? with
    | some (some x) => .ok x (ρ.set i none)
    | _ => .stuck)
  | .k c, ρ => opt (constD c) ρ fun d => .ok (d, .sh) ρ
  | .g n, ρ => .ok (pg.gl n, .sh) ρ
  | .bor e, ρ => (match evE pg e (sharedEnv ρ) with
    | .ok (d, _) _ => if d.flat then .ok (d, .sh) ρ else .stuck
    | .exc x _ => .exc x ρ
    | .stuck => .stuck)
  | .rd i f, ρ => rdF pg.att i f ρ
  | .ixv i e, ρ => (evE pg e ρ).bind fun y ρ1 => (match ρ1[i]? with
    | some (some (d, .sh)) => opt (ixD d y.1) ρ1 fun z => .ok (z, .sh) ρ1
    | some (some (d, .root)) => opt (ixD d y.1) ρ1 fun z => .ok (z, .sh) ρ1
    | _ => .stuck)
  | .bin op a b, ρ => (evE pg a ρ).bind fun x ρ1 => (evE pg b ρ1).bind fun y ρ2 => opt (binD op x.1 y.1) ρ2 fun z => .ok z ρ2
  | .un op a, ρ => (evE pg a ρ).bind fun x ρ1 => opt (unD op x.1) ρ1 fun z => .ok (z, .sh) ρ1
  | .bnot a, ρ => (evE pg a ρ).bind fun x ρ1 => (match x.1 with
    | .bl b => .ok (.bl (!b), .sh) ρ1
    | _ => .stuck)
  | .band a b, ρ => (evE pg a ρ).bind fun x ρ1 => (match x.1 with
    | .bl c => if c then evE pg b ρ1 else .ok (.bl false, .sh) ρ1
    | _ => .stuck)
  | .bor2 a b, ρ => (evE pg a ρ).bind fun x ρ1 => (match x.1 with
    | .bl c => if c then .ok (.bl true, .sh) ρ1 else evE pg b ρ1
    | _ => .stuck)
  | .cmp op a b, ρ => (evE pg a ρ).bind fun x ρ1 => (evE pg b ρ1).bind fun y ρ2 => opt (cmpD op x.1 y.1) ρ2 fun z => .ok (.bl z, .sh) ρ2
  | .chain o1 o2 a b c, ρ => (evE pg a ρ).bind fun x ρ1 => (evE pg b ρ1).bind fun y ρ2 => opt (cmpD o1 x.1 y.1) ρ2 fun r =>
      if r then (evE pg c ρ2).bind fun z ρ3 => opt (cmpD o2 y.1 z.1) ρ3 fun r2 => .ok (.bl r2, .sh) ρ3 else .ok (.bl false, .sh) ρ2
  | .ife t a b, ρ => (evT pg t ρ).bind fun c ρ1 => if c then evE pg a ρ1 else evE pg b ρ1
  | .lst es, ρ => (evEs pg es ρ).bind fun xs ρ1 => if xs.length ≤ 10000 then .ok (.lst (xs.map (·.1)), mkO (xs.map (·.2))) ρ1 else .stuck
  | .tup es, ρ => (evEs pg es ρ).bind fun xs ρ1 => if xs.length ≤ 10000 then .ok (.tup (xs.map (·.1)), mkO (xs.map (·.2))) ρ1 else .stuck
  | .dic ks es, ρ => (evEs pg es ρ).bind fun xs ρ1 => if ks.length = xs.length ∧ ks.length ≤ 15 ∧ ks.Nodup then .ok (.dic ks (xs.map (·.1)), .root) ρ1 else .stuck
  | .ix a i, ρ => (evE pg a ρ).bind fun x ρ1 => (evE pg i ρ1).bind fun y ρ2 => opt (ixD x.1 y.1) ρ2 fun z => .ok (z, .sh) ρ2
  | .sl a hl lo hh hi, ρ => (evE pg a ρ).bind fun x ρ1 =>
      ((if hl then (evE pg lo ρ1).bind fun y ρ2 => (match y.1 with
          | .int i => .ok (some i) ρ2
          | _ => .stuck) else .ok none ρ1 : Ev (Option Int))).bind fun l ρ2 =>
      ((if hh then (evE pg hi ρ2).bind fun y ρ3 => (match y.1 with
          | .int i => .ok (some i) ρ3
          | _ => .stuck) else .ok none ρ2 : Ev (Option Int))).bind fun h ρ3 => opt (slD x.1 l h) ρ3 fun z => .ok z ρ3
  | .fld a f, ρ => (evE pg a ρ).bind fun x ρ1 => (match x.1 with
    | .obj c fs ds => if pg.att c f then opt (lookF fs ds f) ρ1 fun z => .ok (z, .sh) ρ1 else .stuck
    | _ => .stuck)
  | .call f es df bk, ρ => (evEs pg es ρ).bind fun xs ρ1 => ofRt bk ρ1 (pg.fn f (xs ++ dflt df))
  | .mk c es df, ρ => (evEs pg es ρ).bind fun xs ρ1 => ofRt [] ρ1 (pg.mak c (xs ++ dflt df))
  | .mth o m es df bk, ρ => (evE pg o ρ).bind fun x ρ1 => (match x.1 with
    | .obj c fs _ => if fs.contains m then .stuck else opt (pg.mth c m) ρ1 fun f => if bkOk (none :: holdsOf es) (pg.iof f) bk then
        (evEs pg es ρ1).bind fun xs ρ2 => ofRt bk ρ2 (pg.fn f (x :: (xs ++ dflt df))) else .stuck
    | _ => .stuck)
  | .mthI i m es df bk, ρ => (match ρ[i]? with
    | some (some (.obj c fs _, _)) => if fs.contains m then .stuck else opt (pg.mth c m) ρ fun f => if bkOk (some i :: holdsOf es) (pg.iof f) (some i :: bk) then
        (evEs pg es ρ).bind fun xs ρ1 => (match ρ1[i]? with
          | some (some x) => ofRt (some i :: bk) (ρ1.set i none) (pg.fn f (x :: (xs ++ dflt df)))
          | _ => .stuck) else .stuck
    | _ => .stuck)
  | .bi b es, ρ => (evEs pg es ρ).bind fun xs ρ1 => opt (biD b (xs.map (·.1))) ρ1 fun z => .ok z ρ1
  | .bm m o es, ρ => (evE pg o ρ).bind fun x ρ1 => if bmTy m x.1 then (evEs pg es ρ1).bind fun xs ρ2 => opt (bmD m x.1 (xs.map (·.1))) ρ2 fun z => .ok z ρ2 else .stuck
  | .kget n e c, ρ => (evE pg e ρ).bind fun y ρ1 => (match y.1 with
    | .str s => .ok (.int (((pg.tb n).lookup s).getD c), .sh) ρ1
    | _ => .stuck)
  | .isi a t, ρ => (evE pg a ρ).bind fun x ρ1 => opt (pg.isk (kdOf x.1) t) ρ1 fun b => .ok (.bl b, .sh) ρ1
  | .isi2 a t1 t2, ρ => (evE pg a ρ).bind fun x ρ1 => opt (isk2 pg.isk (kdOf x.1) t1 t2) ρ1 fun b => .ok (.bl b, .sh) ρ1
  | .borL e, ρ => (match evE pg e (sharedEnv ρ) with
    | .ok (d, o) _ => if ownD d o then .ok (d, o) ρ else .stuck
    | .exc x _ => .exc x ρ
    | .stuck => .stuck)
  | .borK e, ρ => (match evE pg e (sharedEnv ρ) with
    | .ok (d, o) _ => if envL ρ && leafK d o then .ok (d, o) ρ else .stuck
    | .exc x _ => .exc x ρ
    | .stuck => .stuck)
  | .mutT m e es, ρ => (evE pg e ρ).bind fun x ρ1 => (match x.2 with
    | .root => if tyM m x.1 then (evEs pg es ρ1).bind fun xs ρ2 => opt (muD m x.1 (xs.map (·.1))) ρ2 fun r => .ok (r.1, .sh) ρ2 else .stuck
    | _ => .stuck)
  | .mutL i m es, ρ => mutLF i m (evEs pg es) ρ
  | .shr e, ρ => (evE pg e ρ).bind fun x ρ1 => .ok (x.1, .sh) ρ1
  | .mut i p m es, ρ => mutF pg.att i p m (evEs pg es) ρ
  | .mutR i p m f, ρ => mutRF pg.att i p m f ρ
  | .lc js tp it c hc e, ρ => (evI pg it ρ).bind fun ds ρ1 => if ds.length ≤ 1000000 then
      (match lcLoop (lcBody js tp (if hc then some (evT pg c) else none) (evE pg e)) ds (wipeE ρ1 js) with
        | .ok r ρ5 => .ok (.lst r, .root) ρ5
        | _ => .stuck) else .stuck
  | .lcX js tp it c hc e, ρ => (evI pg it ρ).bind fun ds ρ1 => if ds.length ≤ 1000000 then
      (match lcLoopX (lcBody js tp (if hc then some (evT pg c) else none) (evE pg e)) ds (wipeE ρ1 js) with
        | .ok r ρ5 => .ok (.lst r, .root) ρ5
        | .exc x ρ5 => .exc x (wipeE ρ5 js)
        | .stuck => .stuck) else .stuck
def evEs (pg : Pg) : Es → FEnv → Ev (List DO)
  | .nil, ρ => .ok [] ρ
  | .cons e es, ρ => (evE pg e ρ).bind fun x ρ1 => (evEs pg es ρ1).bind fun xs ρ2 => .ok (x :: xs) ρ2
  | .consL i es, ρ => (match ρ[i]? with
    | some (some _) => (evEs pg es ρ).bind fun xs ρ1 => (match ρ1[i]? with
      | some (some x) => .ok (x :: xs) (ρ1.set i none)
      | _ => .stuck)
    | _ => .stuck)
def evT (pg : Pg) : T → FEnv → Ev Bool
  | .e a, ρ => (evE pg a ρ).bind fun x ρ1 => opt (truD x.1) ρ1 fun b => .ok b ρ1
  | .and a b, ρ => (evT pg a ρ).bind fun c ρ1 => if c then evT pg b ρ1 else .ok false ρ1
  | .or a b, ρ => (evT pg a ρ).bind fun c ρ1 => if c then .ok true ρ1 else evT pg b ρ1
  | .not a, ρ => (evT pg a ρ).bind fun c ρ1 => .ok (!c) ρ1
  | .bor a, ρ => (match evT pg a (sharedEnv ρ) with
    | .ok b _ => .ok b ρ
    | .exc x _ => .exc x ρ
    | .stuck => .stuck)
def evI (pg : Pg) : It → FEnv → Ev (List D)
  | .e a, ρ => (evE pg a ρ).bind fun x ρ1 => opt (seqD x.1) ρ1 fun ds => .ok ds ρ1
  | .rng1 a, ρ => (evE pg a ρ).bind fun x ρ1 => (match x.1 with
    | .int n => if inRange n then .ok (rangeD 0 n) ρ1 else .stuck
    | _ => .stuck)
  | .rng2 a b, ρ => (evE pg a ρ).bind fun x ρ1 => (evE pg b ρ1).bind fun y ρ2 => (match x.1, y.1 with
    | .int i, .int j => if inRange i && inRange j then .ok (rangeD i j) ρ2 else .stuck
    | _, _ => .stuck)
  | .enum a st, ρ => (evE pg a ρ).bind fun x ρ1 => (match x.1 with
    | .lst ds => .ok ((List.range ds.length).zip ds |>.map fun p => .tup [.int (st + (p.1 : Int)), p.2]) ρ1
    | _ => .stuck)
  | .enumT a, ρ => (evE pg a ρ).bind fun x ρ1 => (match x.1 with
    | .tup ds => .ok ((List.range ds.length).zip ds |>.map fun p => .tup [.int (p.1 : Int), p.2]) ρ1
    | _ => .stuck)
  | .zip a b, ρ => (evE pg a ρ).bind fun x ρ1 => (evE pg b ρ1).bind fun y ρ2 => (match x.1, y.1 with
    | .lst xs, .lst ys => .ok ((xs.zip ys).map fun p => .tup [p.1, p.2]) ρ2
    | .tup xs, .tup ys => .ok ((xs.zip ys).map fun p => .tup [p.1, p.2]) ρ2
    | _, _ => .stuck)
  | .items a, ρ => (evE pg a ρ).bind fun x ρ1 => (match x.1 with
    | .dic ks ds => .ok ((ks.zip ds).map fun p => .tup [(match p.1 with
        | .inl i => .int i
        | .inr s => .str s), p.2]) ρ1
    | _ => .stuck)
  | .keys a, ρ => (evE pg a ρ).bind fun x ρ1 => (match x.1 with
    | .dic ks _ => .ok (ks.map fun k => (match k with
        | .inl i => .int i
        | .inr s => .str s)) ρ1
    | _ => .stuck)
end
def opt' {α : Type} (o : Option α) (f : α → Fl) : Fl := match o with
  | some a => f a
  | none => .stuck
mutual
def evS (pg : Pg) : S → FEnv → Fl
  | .asg i e, ρ => (evE pg e ρ).fl fun x ρ1 => .nx (ρ1.set i (some x))
  | .unp is e, ρ => (evE pg e ρ).fl fun x ρ1 => (match bindTg is true x.1 ρ1 with
    | some ρ2 => .nx ρ2
    | none => .stuck)
  | .unpO is e, ρ => (evE pg e ρ).fl fun x ρ1 => (match bindO is x.1 x.2 ρ1 with
    | some ρ2 => .nx ρ2
    | none => .stuck)
  | .seti i p ix e, ρ => setiF pg.att i p (evE pg ix) (evE pg e) ρ
  | .setd i p ix e, ρ => setdF pg.att i p (evE pg ix) (evE pg e) ρ
  | .setf i f e, ρ => setfF pg.att i f (evE pg e) ρ
  | .ex e, ρ => (evE pg e ρ).fl fun _ ρ1 => .nx ρ1
  | .ite t a b, ρ => (evT pg t ρ).fl fun c ρ1 => if c then evSs pg a ρ1 else evSs pg b ρ1
  | .whl t b, ρ => whLoop (evT pg t) (evSs pg b) pg.fuel ρ
  | .for1 js tp it b, ρ => (evI pg it ρ).fl fun ds ρ1 => forLoop (forBody js tp (evSs pg b)) ds ρ1
  | .forD js tp im e b, ρ => (evE pg e ρ).fl fun x ρ1 => (match x.1 with
    | .dic ks ds => noX (forLoop (forBody js tp (evSs pg b)) (dItems im ks ds) ρ1)
    | _ => .stuck)
  | .forH js tp i b, ρ => forHF js tp i (evSs pg b) ρ
  | .forN j js it b, ρ => (evI pg it ρ).fl fun ds ρ1 => forLoop (forBodyN j js (evSs pg b)) ds ρ1
  | .ret e, ρ => (evE pg e ρ).fl fun x ρ1 => .rt x.1 x.2 ρ1
  | .retN, ρ => .rt .non .sh ρ
  | .rais c e own, ρ => if own then (evE pg e ρ).fl fun x ρ1 => (match ofRt [] ρ1 (pg.mak c [x]) with
      | .ok (.obj c' fs ds, _) ρ2 => .exc ⟨c', fs, ds⟩ ρ2
      | _ => .stuck) else .exc ⟨c, [], []⟩ ρ
  | .tryc b hs, ρ => (match evSs pg b ρ with
    | .exc x ρ1 => evHs pg hs x ρ1
    | r => r)
  | .asgX i b, ρ => (match pg.cur with
    | some x => if x.fs = [] then opt' (evX pg.sub x.c b) fun b => .nx (ρ.set i (some (.bl b, .sh))) else .stuck
    | none => .stuck)
  | .raisF c f e, ρ => (evE pg e ρ).fl fun x ρ1 => if x.1.flat then .exc ⟨c, [f], [x.1]⟩ ρ1 else .stuck
  | .asgX2 i b, ρ => (match pg.cur with
    | some x => opt' (evX pg.sub x.c b) fun b => .nx (ρ.set i (some (.bl b, .sh)))
    | none => .stuck)
  | .asgXF i c f, ρ => (match pg.cur with
    | some x => opt' (constD c) fun d => opt' (lookF x.fs x.ds f) fun d2 => .nx (ρ.set i (some (.tup [d, d2], .root)))
    | none => .stuck)
  | .brk, ρ => .br ρ
  | .cont, ρ => .ct ρ
  | .pass, ρ => .nx ρ
  | .no, _ => .stuck
def evSs (pg : Pg) : Ss → FEnv → Fl
  | .nil, ρ => .nx ρ
  | .cons s ss, ρ => (evS pg s ρ).seq (evSs pg ss)
def evHs (pg : Pg) : Hs → Exn → FEnv → Fl
  | .nil, x, ρ => .exc x ρ
  | .cons c i b hs, x, ρ => (match pg.sub x.c c with
    | some true => (match i with
      | some j => if j < ρ.length then endX i (evSs { pg with cur := some x } b (ρ.set j none)) else .stuck
      | none => endX i (evSs { pg with cur := some x } b ρ))
    | some false => evHs pg hs x ρ
    | none => .stuck)
end
structure FDef where
  np : Nat            -- parameters
  ns : Nat            -- slots
  io : List Nat       -- held parameters
  body : Ss
def shN (io : List Nat) : Nat → List DO → FEnv
  | _, [] => []
  | n, x :: xs => some (if io.contains n then x else (x.1, .sh)) :: shN io (n + 1) xs
def finIo (ρ : FEnv) : List Nat → Option (List DO)
  | [] => some []
  | j :: js => match ρ[j]? with
    | some (some x) => (finIo (ρ.set j none) js).map (x :: ·)
    | _ => none
def fnSem (pg : Pg) (f : FDef) (args : List DO) : Rt :=
  if args.length = f.np then
    match evSs pg f.body (shN f.io 0 args ++ List.replicate (f.ns - f.np) none) with
    | .rt d o ρ => (match finIo ρ f.io with
      | some io => .ok d o io
      | none => .stuck)
    | .nx ρ => (match finIo ρ f.io with
      | some io => .ok .non .sh io
      | none => .stuck)
    | .exc x ρ => (match finIo ρ f.io with
      | some io => .exc x io
      | none => .stuck)
    | _ => .stuck
  else .stuck
end FB
namespace FB
open PySem L2 PyProof.Rows
section
variable {K : PySem.W.Frag} {cl : Nat → Addr} {P P' H H' R : Hp} {L M N : List Item} {v : V} {d : D} {o : O} {a p : Addr} {u u' : HO} {vs ws : List V} {ds es : List D} {os : List O}

/-- some shared data, out of the state -/
theorem Good.fact (g : Good K cl R H (shs vs ds ++ M)) (hl : vs.length = ds.length) : ∃ P, Ex P H ∧ Rss K cl P vs ds := by
  obtain ⟨P, f, a, b, c, n, e⟩ := g
  obtain ⟨f1, f2, rfl, e1, e2⟩ := e.split
  exact ⟨P, b, (Its.toRss hl e1).2⟩
theorem Good.derive (g : Good K cl R H (shs vs ds ++ M)) (hl : vs.length = ds.length) (k : ∀ P, Ex P H → Rss K cl P vs ds → Rss K cl P ws es) : Good K cl R H (shs ws es ++ M) := by
  obtain ⟨P, f, a, b, c, n, e⟩ := g
  obtain ⟨f1, f2, rfl, e1, e2⟩ := e.split
  obtain ⟨rfl, r⟩ := Its.toRss hl e1
  exact ⟨P, _, a, b, c, n, Its.append (f := []) (Its.ofRss (k P b r)) e2⟩
/-- the same with one datum -/
theorem shs_one : shs [v] [d] = [.val v d .sh] := rfl
theorem Good.fact1 (g : Good K cl R H (.val v d .sh :: M)) : ∃ P, Ex P H ∧ Rs K cl P v d := by
  obtain ⟨P, e, r⟩ := Good.fact (vs := [v]) (ds := [d]) g rfl
  cases r with
  | cons h _ => exact ⟨P, e, h⟩
theorem Good.fact2 {w : V} {e : D} (g : Good K cl R H (.val v d .sh :: .val w e .sh :: M)) : ∃ P, Ex P H ∧ Rs K cl P v d ∧ Rs K cl P w e := by
  obtain ⟨P, e, r⟩ := Good.fact (vs := [v, w]) (ds := [d, e]) g rfl
  cases r with
  | cons h r => cases r with
    | cons h' _ => exact ⟨P, e, h, h'⟩
theorem Good.derive1 (g : Good K cl R H (.val v d .sh :: M)) (k : ∀ P, Ex P H → Rs K cl P v d → Rss K cl P ws es) : Good K cl R H (shs ws es ++ M) :=
  Good.derive (vs := [v]) (ds := [d]) g rfl fun P e r => by
    cases r with
    | cons h _ => exact k P e h
theorem Good.derive2 {w : V} {e : D} (g : Good K cl R H (.val v d .sh :: .val w e .sh :: M)) (k : ∀ P, Ex P H → Rs K cl P v d → Rs K cl P w e → Rss K cl P ws es) : Good K cl R H (shs ws es ++ M) :=
  Good.derive (vs := [v, w]) (ds := [d, e]) g rfl fun P ex r => by
    cases r with
    | cons h r => cases r with
      | cons h' _ => exact k P ex h h'
/-! packing -/
theorem Good.packLst (g : Good K cl R H (.cell a (.lst vs) :: (shs vs ds ++ M))) (hl : vs.length = ds.length) : Good K cl R H (.val (.ref a) (.lst ds) .root :: M) := by
  obtain ⟨P, f, r1, r2, c, n, e⟩ := g
  cases e with
  | cell h _ r =>
    obtain ⟨f1, f2, rfl, e1, e2⟩ := r.split
    obtain ⟨rfl, q⟩ := Its.toRss hl e1
    exact ⟨P, _, r1, r2, c, n, .val (f := [a]) (.lstR h q) e2⟩
theorem Good.packTup (g : Good K cl R H (.cell a (.tup vs) :: (shs vs ds ++ M))) (hl : vs.length = ds.length) : Good K cl R H (.val (.ref a) (.tup ds) .root :: M) := by
  obtain ⟨P, f, r1, r2, c, n, e⟩ := g
  cases e with
  | cell h _ r =>
    obtain ⟨f1, f2, rfl, e1, e2⟩ := r.split
    obtain ⟨rfl, q⟩ := Its.toRss hl e1
    exact ⟨P, _, r1, r2, c, n, .val (f := [a]) (.tupR h q) e2⟩
theorem Good.packDic {ks : List Key} (g : Good K cl R H (.cell a (.dK (ks.zip vs)) :: (shs vs ds ++ M))) (hl : vs.length = ds.length) (hk : ks.length = vs.length) : Good K cl R H (.val (.ref a) (.dic ks ds) .root :: M) := by
  obtain ⟨P, f, r1, r2, c, n, e⟩ := g
  cases e with
  | cell h _ r =>
    obtain ⟨f1, f2, rfl, e1, e2⟩ := r.split
    obtain ⟨rfl, q⟩ := Its.toRss hl e1
    exact ⟨P, _, r1, r2, c, n, .val (f := [a]) (.dicR h hk q) e2⟩
theorem Good.packLstN (g : Good K cl R H (.cell a (.lst vs) :: (vals vs ds os ++ M))) (h1 : vs.length = ds.length) (h2 : ds.length = os.length) : Good K cl R H (.val (.ref a) (.lst ds) (.node os) :: M) := by
  obtain ⟨P, f, r1, r2, c, n, e⟩ := g
  cases e with
  | cell h _ r =>
    obtain ⟨f1, f2, rfl, e1, e2⟩ := r.split
    exact ⟨P, _, r1, r2, c, n, by rw [← List.cons_append]; exact .val (.lstN h (Its.toRos h1 h2 e1)) e2⟩
theorem Good.packTupN (g : Good K cl R H (.cell a (.tup vs) :: (vals vs ds os ++ M))) (h1 : vs.length = ds.length) (h2 : ds.length = os.length) : Good K cl R H (.val (.ref a) (.tup ds) (.node os) :: M) := by
  obtain ⟨P, f, r1, r2, c, n, e⟩ := g
  cases e with
  | cell h _ r =>
    obtain ⟨f1, f2, rfl, e1, e2⟩ := r.split
    exact ⟨P, _, r1, r2, c, n, by rw [← List.cons_append]; exact .val (.tupN h (Its.toRos h1 h2 e1)) e2⟩
theorem vals_sh {n : Nat} : ∀ {vs : List V} {ds : List D} {os : List O}, os.all O.isSh = true → ds.length = os.length → vals vs ds os = shs vs ds
  | [], [], [], _, _ => rfl
  | [], d :: ds, o :: os, _, _ => rfl
  | v :: vs, [], [], _, _ => rfl
  | v :: vs, d :: ds, o :: os, h, hl => by
    rw [List.all_cons, Bool.and_eq_true] at h
    have h1 : o = .sh := by
      cases o with
      | sh => rfl
      | root => exact nomatch h.1
      | node _ => exact nomatch h.1
    subst h1
    show _ :: _ = _ :: _
    rw [vals_sh (n := n) h.2 (Nat.succ.inj hl)]
    rfl
theorem Good.packLstO (g : Good K cl R H (.cell a (.lst vs) :: (vals vs ds os ++ M))) (h1 : vs.length = ds.length) (h2 : ds.length = os.length) : Good K cl R H (.val (.ref a) (.lst ds) (mkO os) :: M) := by
  unfold mkO
  by_cases h : os.all O.isSh = true
  · rw [if_pos h]
    rw [vals_sh (n := 0) h h2] at g
    exact g.packLst h1
  · rw [if_neg h]
    exact g.packLstN h1 h2
theorem Good.packTupO (g : Good K cl R H (.cell a (.tup vs) :: (vals vs ds os ++ M))) (h1 : vs.length = ds.length) (h2 : ds.length = os.length) : Good K cl R H (.val (.ref a) (.tup ds) (mkO os) :: M) := by
  unfold mkO
  by_cases h : os.all O.isSh = true
  · rw [if_pos h]
    rw [vals_sh (n := 0) h h2] at g
    exact g.packTup h1
  · rw [if_neg h]
    exact g.packTupN h1 h2
theorem Good.unpackLst (g : Good K cl R H (.val v (.lst ds) .root :: M)) : ∃ a vs, v = .ref a ∧ vs.length = ds.length ∧ Good K cl R H (.cell a (.lst vs) :: (shs vs ds ++ M)) := by
  obtain ⟨P, f, r1, r2, c, n, e⟩ := g
  cases e with
  | val h r =>
    cases h with
    | lstR h q => exact ⟨_, _, rfl, q.length, P, _, r1, r2, c, n, .cell h rfl (Its.append (f := []) (Its.ofRss q) r)⟩
theorem Good.unpackDic {ks : List Key} (g : Good K cl R H (.val v (.dic ks ds) .root :: M)) : ∃ a vs, v = .ref a ∧ vs.length = ds.length ∧ ks.length = vs.length ∧ Good K cl R H (.cell a (.dK (ks.zip vs)) :: (shs vs ds ++ M)) := by
  obtain ⟨P, f, r1, r2, c, n, e⟩ := g
  cases e with
  | val h r =>
    cases h with
    | dicR h l q => exact ⟨_, _, rfl, q.length, l, P, _, r1, r2, c, n, .cell h rfl (Its.append (f := []) (Its.ofRss q) r)⟩
/-! shared data by parts -/
theorem Rss.append : ∀ {vs ws : List V} {ds es : List D}, Rss K cl P vs ds → Rss K cl P ws es → Rss K cl P (vs ++ ws) (ds ++ es)
  | _, _, _, _, .nil, s => s
  | _, _, _, _, .cons h r, s => .cons h (Rss.append r s)
theorem Rss.take : ∀ {vs : List V} {ds : List D} (n : Nat), Rss K cl P vs ds → Rss K cl P (vs.take n) (ds.take n)
  | _, _, 0, _ => by rw [List.take_zero, List.take_zero]; exact .nil
  | _, _, n + 1, .nil => .nil
  | _, _, n + 1, .cons h r => .cons h (Rss.take n r)
theorem Rss.drop : ∀ {vs : List V} {ds : List D} (n : Nat), Rss K cl P vs ds → Rss K cl P (vs.drop n) (ds.drop n)
  | _, _, 0, r => r
  | _, _, n + 1, .nil => .nil
  | _, _, n + 1, .cons h r => Rss.drop n r
theorem Rss.get : ∀ {vs : List V} {ds : List D} {i : Nat} {d : D}, Rss K cl P vs ds → ds[i]? = some d → ∃ v, vs[i]? = some v ∧ Rs K cl P v d
  | _, _, i, _, .nil, e => by simp at e
  | _, _, 0, _, .cons h r, e => by simp at e; subst e; exact ⟨_, rfl, h⟩
  | _, _, i + 1, _, .cons h r, e => by
    obtain ⟨v, h1, h2⟩ := Rss.get (i := i) r (by simpa using e)
    exact ⟨v, by simpa using h1, h2⟩
theorem Rss.set {v : V} {d : D} (h : Rs K cl P v d) : ∀ {vs : List V} {ds : List D} (i : Nat), Rss K cl P vs ds → Rss K cl P (vs.set i v) (ds.set i d)
  | _, _, _, .nil => .nil
  | _, _, 0, .cons _ r => .cons h r
  | _, _, i + 1, .cons q r => .cons q (Rss.set h i r)
theorem Rss.replicate (n : Nat) {vs : List V} {ds : List D} (r : Rss K cl P vs ds) : Rss K cl P (List.replicate n vs).flatten (List.replicate n ds).flatten := by
  induction n with
  | zero => exact .nil
  | succ n ih =>
    rw [List.replicate_succ, List.replicate_succ, List.flatten_cons, List.flatten_cons]
    exact r.append ih
theorem Rss.dropLast : ∀ {vs : List V} {ds : List D}, Rss K cl P vs ds → Rss K cl P vs.dropLast ds.dropLast
  | _, _, .nil => .nil
  | _, _, .cons h .nil => .nil
  | _, _, .cons h (.cons h' r) => .cons h (Rss.dropLast (.cons h' r))
theorem Rss.one {v : V} {d : D} (h : Rs K cl P v d) : Rss K cl P [v] [d] := .cons h .nil
theorem ex_eq {o o' : HO} (e : Ex P H) (h : P a = some o) (h' : H a = some o') : o = o' := Option.some.inj ((e a o h).symm.trans h')
end

/-! ### operators by data -/
section
variable {X : Cx} {cl : Nat → Addr}
/-- what is wanted of an operation on two values -/
def rB (K : PySem.W.Frag) (cl : Nat → Addr) (f : D → D → Option DO) : R2 := fun x y H Q => ∃ dx dy R M z, Good K cl R H (.val x dx .sh :: .val y dy .sh :: M) ∧ f dx dy = some z ∧ ∀ v H', Good K cl R H' (.val v z.1 z.2 :: M) → Q v H'
theorem rB_of {K : PySem.W.Frag} {f : Value → Value → Sem Value} {g : D → D → Option DO} {r : D → D → DO → R2} (h : ∀ dx dy z, g dx dy = some z → OpR X f (r dx dy z))
    (k : ∀ x y dx dy z R M H (Q : VK), g dx dy = some z → Good K cl R H (.val x dx .sh :: .val y dy .sh :: M) → (∀ v H', Good K cl R H' (.val v z.1 z.2 :: M) → Q v H') → r dx dy z x y H Q) : OpR X f (rB K cl g) := by
  intro pins s σ H x y v u Q I rx ry ⟨dx, dy, R, M, z, g, hz, q⟩
  exact h dx dy z hz pins s σ H x y v u Q I rx ry (k x y dx dy z R M H Q hz g q)
theorem opB_add : OpR X (binaryOp .Add) (rB X.K cl (binD .Add)) := by
  intro pins s σ H x y v u Q I rx ry ⟨dx, dy, R, M, z, g, hz, q⟩
  obtain ⟨P, ex, h1, h2⟩ := g.fact2
  cases h1 with
  | int i =>
    cases h2 with
    | int j => cases hz; exact op_add pins s σ H _ _ v u Q I rx ry ⟨i, j, rfl, rfl, q _ _ (g.tail.tail.flat (.int _))⟩
    | _ => cases hz
  | str i =>
    cases h2 with
    | str j =>
      simp only [binD] at hz
      split at hz
      · cases hz
        rename_i hle
        exact op_add_str pins s σ H _ _ v u Q I rx ry ⟨i, j, rfl, rfl, by rw [sizeLine_eq]; omega, q _ _ (g.tail.tail.flat (.str _))⟩
      · cases hz
    | _ => cases hz
  | @lst a1 vs1 ds1 p1 r1 =>
    cases h2 with
    | @lst a2 vs2 ds2 p2 r2 =>
      simp only [binD] at hz
      split at hz
      · cases hz
        rename_i hle
        have l1 := r1.length
        have l2 := r2.length
        refine op_cat pins s σ H _ _ v u Q I rx ry ⟨a1, a2, vs1, vs2, rfl, rfl, ex _ _ p1, ex _ _ p2, by rw [sizeLine_eq]; omega, fun p hp => q _ _ ?_⟩
        have g2 : Good X.K cl R H (shs (vs1 ++ vs2) (ds1 ++ ds2) ++ M) := g.derive2 fun P' ex' h1' h2' => by
          cases h1' with
          | lst p1' r1' =>
            cases h2' with
            | lst p2' r2' =>
              cases ex_eq ex' p1' (ex _ _ p1)
              cases ex_eq ex' p2' (ex _ _ p2)
              exact r1'.append r2'
        exact (g2.alloc hp).packLst (by rw [List.length_append, List.length_append, l1, l2])
      · cases hz
    | _ => cases hz
  | @tup a1 vs1 ds1 p1 r1 =>
    cases h2 with
    | @tup a2 vs2 ds2 p2 r2 =>
      simp only [binD] at hz
      split at hz
      · cases hz
        rename_i hle
        have l1 := r1.length
        have l2 := r2.length
        have g2 : Good X.K cl R H (shs (vs1 ++ vs2) (ds1 ++ ds2) ++ M) := g.derive2 fun P' ex' h1' h2' => by
          cases h1' with
          | tup p1' r1' =>
            cases h2' with
            | tup p2' r2' =>
              have e1 : _ = vs1 := I.tuple_inj (ex_t ex' p1') (ex_t ex p1)
              have e2 : _ = vs2 := I.tuple_inj (ex_t ex' p2') (ex_t ex p2)
              subst e1; subst e2
              exact r1'.append r2'
        refine op_catA pins s σ H _ _ v u Q I rx ry ⟨a1, a2, vs1, vs2, rfl, rfl, ex_t ex p1, ex_t ex p2, by rw [sizeLine_eq]; omega, fun e => q _ _ ?_, fun _ e => q _ _ ?_, fun _ _ p hp => q _ _ ?_⟩
        · have e2 : ds1 = [] := by rw [e] at l1; exact List.length_eq_zero_iff.mp l1.symm
          subst e; subst e2
          exact g.derive2 (ws := [V.ref a2]) (es := [D.tup ds2]) fun P' ex' _ h2' => .cons h2' .nil
        · have e2 : ds2 = [] := by rw [e] at l2; exact List.length_eq_zero_iff.mp l2.symm
          subst e; subst e2
          rw [List.append_nil]
          exact g.derive2 (ws := [V.ref a1]) (es := [D.tup ds1]) fun P' ex' h1' _ => .cons h1' .nil
        · exact ((g2.alloc hp).packTup (by rw [List.length_append, List.length_append, l1, l2])).share
      · cases hz
    | _ => cases hz
  | _ => cases hz
end
end FB
namespace FB
open PySem L2 PyProof.Rows
section
variable {X : Cx} {cl : Nat → Addr}
theorem small64_ok {i : Int} (h : small64 i = true) : -(2 ^ 64) < i ∧ i < 2 ^ 64 := by
  unfold small64 at h
  rw [Bool.and_eq_true, decide_eq_true_eq, decide_eq_true_eq] at h
  exact ⟨by omega, by omega⟩
theorem small64_or {i j : Int} (h : (small64 i || small64 j) = true) : CMul i j := by
  rcases Bool.or_eq_true_iff.mp h with h | h
  · exact .inl (small64_ok h)
  · exact .inr (small64_ok h)
/-- two ints by a rule with a condition -/
theorem opB_int {op : Operator} {C : Int → Int → Prop} {g : Int → Int → Int} (ho : OpR X (binaryOp op) (rI C fun i j => .int (g i j)))
    (h : ∀ dx dy z, binD op dx dy = some z → ∃ i j, dx = .int i ∧ dy = .int j ∧ C i j ∧ z = (.int (g i j), .sh)) : OpR X (binaryOp op) (rB X.K cl (binD op)) := by
  intro pins s σ H x y v u Q I rx ry ⟨dx, dy, R, M, z, gd, hz, q⟩
  obtain ⟨i, j, rfl, rfl, hc, rfl⟩ := h dx dy z hz
  obtain ⟨P, ex, h1, h2⟩ := gd.fact2
  cases h1
  cases h2
  exact ho pins s σ H _ _ v u Q I rx ry ⟨i, j, rfl, rfl, hc, q _ _ (gd.tail.tail.flat (.int _))⟩
theorem opB_int0 {op : Operator} {g : Int → Int → Int} (ho : OpR X (binaryOp op) (rI0 fun i j => .int (g i j)))
    (h : ∀ dx dy z, binD op dx dy = some z → ∃ i j, dx = .int i ∧ dy = .int j ∧ z = (.int (g i j), .sh)) : OpR X (binaryOp op) (rB X.K cl (binD op)) := by
  intro pins s σ H x y v u Q I rx ry ⟨dx, dy, R, M, z, gd, hz, q⟩
  obtain ⟨i, j, rfl, rfl, rfl⟩ := h dx dy z hz
  obtain ⟨P, ex, h1, h2⟩ := gd.fact2
  cases h1
  cases h2
  exact ho pins s σ H _ _ v u Q I rx ry ⟨i, j, rfl, rfl, q _ _ (gd.tail.tail.flat (.int _))⟩
theorem opB_sub : OpR X (binaryOp .Sub) (rB X.K cl (binD .Sub)) := opB_int0 op_sub fun dx dy z h => by
  cases dx <;> cases dy <;> simp [binD] at h
  exact ⟨_, _, rfl, rfl, h.symm⟩
theorem opB_and : OpR X (binaryOp .BitAnd) (rB X.K cl (binD .BitAnd)) := opB_int0 op_and fun dx dy z h => by
  cases dx <;> cases dy <;> simp [binD] at h
  exact ⟨_, _, rfl, rfl, h.symm⟩
theorem opB_or : OpR X (binaryOp .BitOr) (rB X.K cl (binD .BitOr)) := opB_int0 op_or fun dx dy z h => by
  cases dx <;> cases dy <;> simp [binD] at h
  exact ⟨_, _, rfl, rfl, h.symm⟩
theorem opB_xor : OpR X (binaryOp .BitXor) (rB X.K cl (binD .BitXor)) := opB_int0 op_xor fun dx dy z h => by
  cases dx <;> cases dy <;> simp [binD] at h
  exact ⟨_, _, rfl, rfl, h.symm⟩
theorem opB_fdiv : OpR X (binaryOp .FloorDiv) (rB X.K cl (binD .FloorDiv)) := opB_int op_fdiv fun dx dy z h => by
  cases dx <;> cases dy <;> simp [binD] at h
  exact ⟨_, _, rfl, rfl, h.1, h.2.symm⟩
theorem opB_mod : OpR X (binaryOp .Mod) (rB X.K cl (binD .Mod)) := opB_int op_mod fun dx dy z h => by
  cases dx <;> cases dy <;> simp [binD] at h
  exact ⟨_, _, rfl, rfl, h.1, h.2.symm⟩
theorem opB_pow : OpR X (binaryOp .Pow) (rB X.K cl (binD .Pow)) := opB_int op_pow fun dx dy z h => by
  cases dx <;> cases dy <;> simp [binD] at h
  exact ⟨_, _, rfl, rfl, ⟨h.1.1, h.1.2.1, h.1.2.2⟩, h.2.symm⟩
theorem cshl_of {i j : Int} (h : 0 ≤ j) (h2 : i.natAbs.log2 + j.toNat ≤ 1000000) : CShl i j := by
  obtain ⟨k, rfl⟩ := Int.eq_ofNat_of_zero_le h
  rw [Int.toNat_natCast] at h2
  exact shl_ok (n := i.natAbs.log2 + 1) Nat.lt_log2_self (by omega)
theorem opB_shl : OpR X (binaryOp .LShift) (rB X.K cl (binD .LShift)) := opB_int op_shlW fun dx dy z h => by
  cases dx <;> cases dy <;> simp [binD] at h
  exact ⟨_, _, rfl, rfl, cshl_of h.1.1 h.1.2, h.2.symm⟩
theorem opB_shr : OpR X (binaryOp .RShift) (rB X.K cl (binD .RShift)) := opB_int op_shr fun dx dy z h => by
  cases dx <;> cases dy <;> simp [binD] at h
  exact ⟨_, _, rfl, rfl, h.1, h.2.symm⟩
theorem opB_mul : OpR X (binaryOp .Mult) (rB X.K cl (binD .Mult)) := by
  intro pins s σ H x y v u Q I rx ry ⟨dx, dy, R, M, z, g, hz, q⟩
  obtain ⟨P, ex, h1, h2⟩ := g.fact2
  cases h1 with
  | int i =>
    cases h2 with
    | int j =>
      simp only [binD] at hz
      split at hz
      · cases hz
        rename_i hc
        exact op_mul pins s σ H _ _ v u Q I rx ry ⟨i, j, rfl, rfl, small64_or hc, q _ _ (g.tail.tail.flat (.int _))⟩
      · cases hz
    | _ => cases hz
  | @lst a1 vs1 ds1 p1 r1 =>
    cases h2 with
    | int k =>
      simp only [binD] at hz
      split at hz
      · cases hz
        rename_i hle
        have l1 := r1.length
        refine op_rep pins s σ H _ _ v u Q I rx ry ⟨a1, k, vs1, rfl, rfl, ex _ _ p1, by omega, by omega, by rw [sizeLine_eq, l1]; omega, fun p hp => q _ _ ?_⟩
        have g2 : Good X.K cl R H (shs (List.replicate k.toNat vs1).flatten (List.replicate k.toNat ds1).flatten ++ M) := g.derive2 fun P' ex' h1' h2' => by
          cases h1' with
          | lst p1' r1' =>
            cases ex_eq ex' p1' (ex _ _ p1)
            exact r1'.replicate _
        exact (g2.alloc hp).packLst (Rss.length (r1.replicate k.toNat))
      · cases hz
    | _ => cases hz
  | _ => cases hz
/-- every operator that the language has -/
theorem opB (op : Operator) : OpR X (binaryOp op) (rB X.K cl (binD op)) := by
  cases op with
  | Add => exact opB_add
  | Sub => exact opB_sub
  | Mult => exact opB_mul
  | Mod => exact opB_mod
  | Pow => exact opB_pow
  | LShift => exact opB_shl
  | RShift => exact opB_shr
  | BitOr => exact opB_or
  | BitXor => exact opB_xor
  | BitAnd => exact opB_and
  | FloorDiv => exact opB_fdiv
  | MatMult =>
    intro pins s σ H x y v u Q I rx ry ⟨dx, dy, R, M, z, g, hz, q⟩
    cases dx <;> cases dy <;> simp [binD] at hz
  | Div =>
    intro pins s σ H x y v u Q I rx ry ⟨dx, dy, R, M, z, g, hz, q⟩
    cases dx <;> cases dy <;> simp [binD] at hz
/-- a one-place operator -/
def rU1 (K : PySem.W.Frag) (cl : Nat → Addr) (f : D → Option D) : V → Hp → VK → Prop := fun x H Q => ∃ dx R M z, Good K cl R H (.val x dx .sh :: M) ∧ f dx = some z ∧ ∀ v H', Good K cl R H' (.val v z .sh :: M) → Q v H'
theorem opU (op : UnaryOp) : UnR X (unaryOp op) (rU1 X.K cl (unD op)) := by
  intro pins s σ H x v Q I rx ⟨dx, R, M, z, g, hz, q⟩
  obtain ⟨P, ex, h1⟩ := g.fact1
  cases op with
  | USub =>
    cases h1 with
    | int i => cases hz; exact un_neg pins s σ H _ v Q I rx ⟨i, rfl, q _ _ (g.tail.flat (.int _))⟩
    | _ => cases hz
  | Invert =>
    cases h1 with
    | int i => cases hz; exact un_inv pins s σ H _ v Q I rx ⟨i, rfl, q _ _ (g.tail.flat (.int _))⟩
    | _ => cases hz
  | Not => cases h1 <;> cases hz
  | UAdd => cases h1 <;> cases hz

/-! ### comparisons -/
/-- as data, over the heap -/
theorem toPys_length : ∀ {ds : List D} {ps : List PyData}, toPys ds = some ps → ds.length = ps.length
  | [], ps, h => by simp [toPys] at h; subst h; rfl
  | d :: ds, ps, h => by
    simp only [toPys] at h
    split at h
    · rename_i p q e1 e2
      cases h
      rw [List.length_cons, List.length_cons, toPys_length e2]
    · cases h
mutual
theorem Rs.dp {K : PySem.W.Frag} {P H : Hp} (ex : Ex P H) : ∀ {v : V} {d : D} {p : PyData}, Rs K cl P v d → toPy d = some p → Dp K H v p
  | _, _, _, .non, h => by cases h; exact .non
  | _, _, _, .bl b, h => by cases h; exact .bl b
  | _, _, _, .int i, h => by cases h; exact .int i
  | _, _, _, .str s, h => by cases h; exact .str s
  | _, _, _, .lst e r, h => by
    simp only [toPy, Option.map_eq_some_iff] at h
    obtain ⟨ps, h, rfl⟩ := h
    exact .lst (SqL.of (ex _ _ e)) (Rss.dp ex r h)
  | _, _, _, .frz e r, h => by
    simp only [toPy, Option.map_eq_some_iff] at h
    obtain ⟨ps, h, rfl⟩ := h
    exact .lst (ex_l ex e) (Rss.dp ex r h)
  | _, _, _, .tup e r, h => by
    simp only [toPy, Option.map_eq_some_iff] at h
    obtain ⟨ps, h, rfl⟩ := h
    exact .tup (ex_t ex e) (Rss.dp ex r h)
  | _, _, _, .dic _ _ _, h => nomatch h
  | _, _, _, .obj _ _ _, h => nomatch h
theorem Rss.dp {K : PySem.W.Frag} {P H : Hp} (ex : Ex P H) : ∀ {vs : List V} {ds : List D} {ps : List PyData}, Rss K cl P vs ds → toPys ds = some ps → DpAll K H vs ps
  | _, _, _, .nil, h => by simp only [toPys, Option.some.injEq] at h; subst h; exact .nil
  | _, _, _, .cons a r, h => by
    simp only [toPys] at h
    split at h
    · rename_i p q e1 e2
      cases h
      exact .cons (Rs.dp ex a e1) (Rss.dp ex r e2)
    · cases h
end
mutual
theorem toPy_plain : ∀ {d : D} {p : PyData}, toPy d = some p → p.plain = true
  | .non, _, h => by cases h; rfl
  | .bl _, _, h => by cases h; rfl
  | .int _, _, h => by cases h; rfl
  | .str _, _, h => by cases h; rfl
  | .lst ds, _, h => by
    simp only [toPy, Option.map_eq_some_iff] at h
    obtain ⟨ps, h, rfl⟩ := h
    exact toPys_plain h
  | .frz ds, _, h => by
    simp only [toPy, Option.map_eq_some_iff] at h
    obtain ⟨ps, h, rfl⟩ := h
    exact toPys_plain h
  | .tup ds, _, h => by
    simp only [toPy, Option.map_eq_some_iff] at h
    obtain ⟨ps, h, rfl⟩ := h
    exact toPys_plain h
  | .dic _ _, _, h => nomatch h
  | .obj _ _ _, _, h => nomatch h
theorem toPys_plain : ∀ {ds : List D} {ps : List PyData}, toPys ds = some ps → PyData.plainAll ps = true
  | [], _, h => by simp only [toPys, Option.some.injEq] at h; subst h; rfl
  | d :: ds, _, h => by
    simp only [toPys] at h
    split at h
    · rename_i p q e1 e2
      cases h
      show (p.plain && PyData.plainAll q) = true
      rw [toPy_plain e1, toPys_plain e2]; rfl
    · cases h
end
end
end FB
namespace FB
open PySem L2 PyProof.Rows
section
variable {X : Cx} {cl : Nat → Addr}
def rC (K : PySem.W.Frag) (cl : Nat → Addr) (f : D → D → Option Bool) : R2 := fun x y H Q => ∃ dx dy R M z, Good K cl R H (.val x dx .sh :: .val y dy .sh :: M) ∧ f dx dy = some z ∧ ∀ H', Good K cl R H' M → Q (.bl z) H'
theorem keyD_kV {K : PySem.W.Frag} {P : Hp} {x : V} {d : D} {k : Key} (h : Rs K cl P x d) (e : keyD d = some k) : x = kV k := by
  cases h <;> simp [keyD] at e <;> subst e <;> rfl
theorem valV_zip {K : PySem.W.Frag} {P : Hp} : ∀ {ks : List Key} {vs : List V} {ds : List D} (k : Key), ks.length = vs.length → Rss K cl P vs ds →
    (∃ v d, valV (ks.zip vs) k = some v ∧ dicGet ks ds k = some d ∧ Rs K cl P v d) ∨ (valV (ks.zip vs) k = none ∧ dicGet ks ds k = none)
  | [], [], _, k, _, .nil => .inr ⟨rfl, rfl⟩
  | k0 :: ks, v :: vs, d :: ds, k, hl, .cons h r => by
    by_cases e : k0 = k
    · refine .inl ⟨v, d, ?_, ?_, h⟩
      · rw [List.zip_cons_cons, valV_pos e]
      · simp only [dicGet, if_pos e]
    · rcases valV_zip (K := K) (P := P) k (Nat.succ.inj hl) r with ⟨v', d', h1, h2, h3⟩ | ⟨h1, h2⟩
      · refine .inl ⟨v', d', ?_, ?_, h3⟩
        · rw [List.zip_cons_cons, valV_neg e, h1]
        · simp only [dicGet, if_neg e, h2]
      · refine .inr ⟨?_, ?_⟩
        · rw [List.zip_cons_cons, valV_neg e, h1]
        · simp only [dicGet, if_neg e, h2]
theorem depth_list (ps : List PyData) : PyData.depthAll ps ≤ (PyData.list ps).depth := by
  rw [PyData.depth]
  omega
theorem dget_rd {H : Hp} {a : Addr} {kvs : List (Key × V)} {k : Key} (e : Rd H a (.dK kvs)) : DGet H a (kV k) (valV kvs k) := .inl ⟨kvs, k, e, rfl, rfl⟩
theorem one_sign {t : Str} (h : t.length = 1) : t = ⟨#[t.cps.getD 0 0]⟩ := by
  obtain ⟨c⟩ := t
  obtain ⟨l⟩ := c
  have hl : l.length = 1 := h
  match l, hl with
  | [a], _ => rfl
theorem opC_in (hu : X.A.units + 64 < cLine) (neg : Bool) : OpR X (compareOp (if neg then .NotIn else .In)) (rC X.K cl fun x y => (inD x y).map fun b => if neg then !b else b) := by
  intro pins s σ H x y v u Q I rx ry ⟨dx, dy, R, M, z, g, hz, q⟩
  obtain ⟨P, ex, h1, h2⟩ := g.fact2
  rw [Option.map_eq_some_iff] at hz
  obtain ⟨b, hb, hz⟩ := hz
  have hk : b2i true = b2i true := rfl
  have kseq : ∀ {ds : List D} {ps : List PyData} {p : PyData}, toPys ds = some ps → toPy dx = some p → inL dx ds = some b → p.depth ≤ 60 ∧ b = ps.any fun y => PyData.eqv y p := fun {ds ps p} e1 e2 e3 => by
    simp only [inL, e1, e2] at e3
    split at e3
    · cases e3
      exact ⟨by assumption, rfl⟩
    · cases e3
  have kseq0 : ∀ {ds : List D}, inL dx ds = some b → ∃ ps p, toPys ds = some ps ∧ toPy dx = some p := fun {ds} e3 => by
    simp only [inL] at e3
    split at e3
    · rename_i p ps e1 e2
      exact ⟨ps, p, e2, e1⟩
    · cases e3
  cases h2 with
  | @lst a vs ds e r =>
    obtain ⟨ps, p, e1, e2⟩ := kseq0 hb
    obtain ⟨hd, rfl⟩ := kseq e1 e2 hb
    obtain ⟨as, r1⟩ := Dp.reads I p x v (h1.dp ex e2) rx
    obtain ⟨bs, r2⟩ := Dp.reads I (.list ps) (.ref a) u (.lst (SqL.of (ex _ _ e)) (Rss.dp ex r e1)) ry
    have hu' : X.A.units + 1 + min (PyData.depthAll ps) p.depth < cLine := by omega
    cases neg with
    | true => exact SeqAt.notIn_list_data r2 r1 (toPys_plain e1) (toPy_plain e2) hu' ⟨.bl _, H, I, by rw [← hz]; rfl, q _ g.tail.tail⟩
    | false => exact SeqAt.in_list_data r2 r1 (toPys_plain e1) (toPy_plain e2) hu' ⟨.bl _, H, I, by rw [← hz]; rfl, q _ g.tail.tail⟩
  | @tup a vs ds e r =>
    obtain ⟨ps, p, e1, e2⟩ := kseq0 hb
    obtain ⟨hd, rfl⟩ := kseq e1 e2 hb
    obtain ⟨as, r1⟩ := Dp.reads I p x v (h1.dp ex e2) rx
    obtain ⟨bs, r2⟩ := Dp.reads I (.tuple ps) (.ref a) u (.tup (ex_t ex e) (Rss.dp ex r e1)) ry
    have hu' : X.A.units + 1 + min (PyData.depthAll ps) p.depth < cLine := by omega
    cases neg with
    | true => exact SeqAt.notIn_tuple_data r2 r1 (toPys_plain e1) (toPy_plain e2) hu' ⟨.bl _, H, I, by rw [← hz]; rfl, q _ g.tail.tail⟩
    | false => exact SeqAt.in_tuple_data r2 r1 (toPys_plain e1) (toPy_plain e2) hu' ⟨.bl _, H, I, by rw [← hz]; rfl, q _ g.tail.tail⟩
  | @dic a ks vs ds e hl r =>
    simp only [inD, Option.map_eq_some_iff] at hb
    obtain ⟨k, hk, rfl⟩ := hb
    have ev := keyD_kV h1 hk
    subst ev
    have dg := dget_rd (k := k) (ex_rd ex e)
    have eo : (valV (ks.zip vs) k).isSome = (dicGet ks ds k).isSome := by
      rcases valV_zip k hl r with ⟨_, _, q1, q2, _⟩ | ⟨q1, q2⟩ <;> rw [q1, q2] <;> rfl
    cases ry
    cases neg with
    | true => exact d_notIn (by omega) I dg rx fun s' I' => ⟨.bl _, H, I', by rw [← hz, ← eo]; rfl, q _ g.tail.tail⟩
    | false => exact d_in (by omega) I dg rx fun s' I' => ⟨.bl _, H, I', by rw [← hz, ← eo]; rfl, q _ g.tail.tail⟩
  | str t =>
    simp only [inD] at hb
    split at hb
    · rename_i w
      cases h1
      split at hb
      · cases hb
        rename_i hl
        have ew := one_sign hl
        cases neg with
        | true => exact op_notIn_sign pins s σ H _ _ v u Q I rx ry ⟨w.cps.getD 0 0, t, by rw [← ew], rfl, by
            have q' := q H g.tail.tail
            rw [← hz] at q'
            exact q'⟩
        | false => exact op_in_sign pins s σ H _ _ v u Q I rx ry ⟨w.cps.getD 0 0, t, by rw [← ew], rfl, by
            have q' := q H g.tail.tail
            rw [← hz] at q'
            exact q'⟩
      · cases hb
    · cases hb
  | _ => cases hb
theorem eqD_some {a b : D} {z : Bool} (h : eqD a b = some z) : ∃ p q, toPy a = some p ∧ toPy b = some q ∧ min p.depth q.depth ≤ 60 ∧ z = PyData.eqv p q := by
  simp only [eqD] at h
  split at h
  · rename_i p q e1 e2
    split at h
    · cases h
      exact ⟨p, q, e1, e2, by assumption, rfl⟩
    · cases h
  · cases h
theorem isNon_iff {K : PySem.W.Frag} {P : Hp} {x : V} {d : D} (h : Rs K cl P x d) : decide (x = .non) = d.isNon := by
  cases h <;> rfl
theorem flat_same {K : PySem.W.Frag} {P : Hp} {x y : V} {d e : D} (h : Rs K cl P x d) (h2 : Rs K cl P y e) (s : sameF d e = true) : x = y ∧ flatB x = true := by
  cases h <;> cases h2 <;> simp [sameF] at s
  · exact ⟨rfl, rfl⟩
  · subst s; exact ⟨rfl, rfl⟩
  · subst s; exact ⟨rfl, rfl⟩
  · subst s; exact ⟨rfl, rfl⟩
theorem dicGet_val {K : PySem.W.Frag} {P : Hp} {k : Key} {e : D} : ∀ {ls : List Key} {vs : List V} {es : List D}, ls.length = vs.length → Rss K cl P vs es → dicGet ls es k = some e → ∃ v, valV (ls.zip vs) k = some v ∧ Rs K cl P v e
  | [], _, _, _, _, h => by cases h
  | l :: ls, [], _, hl, _, _ => by cases hl
  | l :: ls, v :: vs, _, hl, .cons h r, hg => by
    simp only [dicGet] at hg
    by_cases hk : l = k
    · rw [if_pos hk] at hg
      cases hg
      exact ⟨v, by rw [List.zip_cons_cons, valV_pos hk], h⟩
    · rw [if_neg hk] at hg
      obtain ⟨w, h1, h2⟩ := dicGet_val (Nat.succ.inj hl) r hg
      exact ⟨w, by rw [List.zip_cons_cons, valV_neg hk]; exact h1, h2⟩
theorem zip_same {K : PySem.W.Frag} {P : Hp} {ls : List Key} {us : List V} {es : List D} (hl : ls.length = us.length) (r2 : Rss K cl P us es) : ∀ {ks : List Key} {vs : List V} {ds : List D}, ks.length = vs.length → Rss K cl P vs ds → ((ks.zip ds).all fun p => match dicGet ls es p.1 with
  | some e => sameF p.2 e
  | none => false) = true → ∀ p ∈ ks.zip vs, ∃ u, valV (ls.zip us) p.1 = some u ∧ (p.2 = u ∧ flatB p.2 = true)
  | [], _, _, _, _, _ => fun p hp => by cases hp
  | k :: ks, [], _, hl, _, _ => by cases hl
  | k :: ks, v :: vs, _, hl1, .cons h r, ha => by
    intro p hp
    rw [List.zip_cons_cons, List.all_cons, Bool.and_eq_true] at ha
    rw [List.zip_cons_cons, List.mem_cons] at hp
    rcases hp with rfl | hp
    · have h1 := ha.1
      split at h1
      · rename_i e he
        obtain ⟨u, hu, ru⟩ := dicGet_val hl r2 he
        obtain ⟨rfl, hf⟩ := flat_same h ru h1
        exact ⟨v, hu, rfl, hf⟩
      · cases h1
    · exact zip_same hl r2 (Nat.succ.inj hl1) r ha.2 p hp
theorem dic_sameF {K : PySem.W.Frag} {P H : Hp} {x y : V} {ks ls : List Key} {ds es : List D} (ex : Ex P H) (h1 : Rs K cl P x (.dic ks ds)) (h2 : Rs K cl P y (.dic ls es)) (hs : sameDic ks ds ls es = true) : ∃ a b xs ys, x = .ref a ∧ y = .ref b ∧ Rd H a (.dK xs) ∧ Rd H b (.dK ys) ∧ xs.length = ys.length ∧ ∀ p ∈ xs, valV ys p.1 = some p.2 ∧ flatB p.2 = true := by
  cases h1 with
  | @dic a _ vs _ pa la ra =>
    cases h2 with
    | @dic b _ us _ pb lb rb =>
      unfold sameDic at hs
      rw [Bool.and_eq_true] at hs
      refine ⟨a, b, _, _, rfl, rfl, ex_rd ex pa, ex_rd ex pb, ?_, ?_⟩
      · rw [List.length_zip, List.length_zip, la, lb, Nat.min_self, Nat.min_self, ← la, ← lb]
        exact eq_of_beq hs.1
      · intro p hp
        obtain ⟨u, hu, h, hf⟩ := zip_same lb rb la ra hs.2 p hp
        exact ⟨by rw [hu, h], hf⟩
/-! dicts compared, frozen ones too -/
theorem op_eq_dictR {X : Cx} (hu : X.A.units < cLine) : OpR X (compareOp .Eq) fun x y H Q => ∃ a b ks ls, x = .ref a ∧ y = .ref b ∧ Rd H a (.dK ks) ∧ Rd H b (.dK ls) ∧ ks.length = ls.length ∧ (∀ p ∈ ks, valV ls p.1 = some p.2 ∧ flatB p.2 = true) ∧ Q (.bl true) H := by
  intro pins s σ H x y v u Q I rx ry h
  obtain ⟨a, b, ks, ls, rfl, rfl, ea, eb, hlen, hp, q⟩ := h
  obtain rfl : v = Value.ref a := rx
  obtain rfl : u = Value.ref b := ry
  obtain ⟨_, ya, va, ra, da⟩ := dk_rd I.hok ea
  obtain ⟨_, yb, vb, rb, db⟩ := dk_rd I.hok eb
  have hl : va.length = vb.length := by rw [← ra.length, ← rb.length]; exact hlen
  exact PySem.W.keq_eq (knd := mixKind X.prog X.w) (r := true) ya yb da db hu (fun _ => hits_all rb ra hp) (fin_bl I q (by simp [hl]))
theorem op_ne_dictR {X : Cx} (hu : X.A.units < cLine) : OpR X (compareOp .NotEq) fun x y H Q => ∃ a b ks ls, x = .ref a ∧ y = .ref b ∧ Rd H a (.dK ks) ∧ Rd H b (.dK ls) ∧ ks.length = ls.length ∧ (∀ p ∈ ks, valV ls p.1 = some p.2 ∧ flatB p.2 = true) ∧ Q (.bl false) H := by
  intro pins s σ H x y v u Q I rx ry h
  obtain ⟨a, b, ks, ls, rfl, rfl, ea, eb, hlen, hp, q⟩ := h
  obtain rfl : v = Value.ref a := rx
  obtain rfl : u = Value.ref b := ry
  obtain ⟨_, ya, va, ra, da⟩ := dk_rd I.hok ea
  obtain ⟨_, yb, vb, rb, db⟩ := dk_rd I.hok eb
  have hl : va.length = vb.length := by rw [← ra.length, ← rb.length]; exact hlen
  exact PySem.W.keq_ne (knd := mixKind X.prog X.w) (r := true) ya yb da db hu (fun _ => hits_all rb ra hp) (fin_bl I q (by simp [hl]))
theorem opC (hu : X.A.units + 64 < cLine) (op : CmpOp) : OpR X (compareOp op) (rC X.K cl (cmpD op)) := by
  cases op with
  | In =>
    have h := opC_in (cl := cl) hu false
    intro pins s σ H x y v u Q I rx ry ⟨dx, dy, R, M, z, g, hz, q⟩
    exact h pins s σ H x y v u Q I rx ry ⟨dx, dy, R, M, z, g, by simpa [cmpD] using hz, q⟩
  | NotIn =>
    have h := opC_in (cl := cl) hu true
    intro pins s σ H x y v u Q I rx ry ⟨dx, dy, R, M, z, g, hz, q⟩
    exact h pins s σ H x y v u Q I rx ry ⟨dx, dy, R, M, z, g, by simpa [cmpD] using hz, q⟩
  | Eq =>
    intro pins s σ H x y v u Q I rx ry ⟨dx, dy, R, M, z, g, hz, q⟩
    obtain ⟨P, ex, h1, h2⟩ := g.fact2
    have hz : (∃ ks ds ls es, dx = .dic ks ds ∧ dy = .dic ls es ∧ sameDic ks ds ls es = true ∧ z = true) ∨ eqD dx dy = some z := by
      have hz : eqDD dx dy = some z := by cases dx <;> cases dy <;> exact hz
      unfold eqDD at hz
      split at hz
      · split at hz
        · cases hz
          exact .inl ⟨_, _, _, _, rfl, rfl, by assumption, rfl⟩
        · cases hz
      · exact .inr hz
    rcases hz with ⟨ks, ds, ls, es, rfl, rfl, hs, rfl⟩ | hz
    · obtain ⟨a, b, xs, ys, rfl, rfl, q1, q2, q3, q4⟩ := dic_sameF ex h1 h2 hs
      exact op_eq_dictR (by omega) pins s σ H _ _ v u Q I rx ry ⟨a, b, xs, ys, rfl, rfl, q1, q2, q3, q4, q _ g.tail.tail⟩
    obtain ⟨p, r, e1, e2, hd, rfl⟩ := eqD_some hz
    obtain ⟨as, r1⟩ := Dp.reads I p x v (h1.dp ex e1) rx
    obtain ⟨bs, r2⟩ := Dp.reads I r y u (h2.dp ex e2) ry
    exact SeqAt.eq_plain r1 r2 (toPy_plain e1) (toPy_plain e2) (by omega) ⟨.bl _, H, I, rfl, q _ g.tail.tail⟩
  | NotEq =>
    intro pins s σ H x y v u Q I rx ry ⟨dx, dy, R, M, z, g, hz, q⟩
    obtain ⟨P, ex, h1, h2⟩ := g.fact2
    have hz : (∃ c fs os r, dx = .lst (.obj c fs os :: r) ∧ dy = .lst [] ∧ z = true) ∨ (eqDD dx dy).map (!·) = some z := by
      unfold cmpD at hz
      split at hz
      all_goals first
        | (injection ‹CmpOp.NotEq = _›; done)
        | (cases hz; exact .inl ⟨_, _, _, _, rfl, rfl, rfl⟩)
        | exact .inr hz
        | contradiction
    rcases hz with ⟨c, fs, os, r, rfl, rfl, rfl⟩ | hz
    · cases h1 with
      | @lst a vs _ pa ra =>
        cases h2 with
        | @lst b us _ pb rb =>
          obtain rfl : v = Value.ref a := rx
          obtain rfl : u = Value.ref b := ry
          obtain ⟨ia, va, la, _⟩ := I.list (SqL.of (ex _ _ pa))
          obtain ⟨ib, vb, lb, _⟩ := I.list (SqL.of (ex _ _ pb))
          obtain ⟨o1, m1, e1, c1, d1, q1⟩ := la
          obtain ⟨o2, m2, e2, c2, d2, q2⟩ := lb
          have l1 : ia.length = vs.length := va.length.symm
          have l2 : ib.length = us.length := vb.length.symm
          have l3 := ra.length
          have l4 := rb.length
          refine PySem.SeqAt.RcNeAt.lists_lengths (items := ia.toArray) (items2 := ib.toArray) ⟨o1, e1, c1, m1, q1⟩ ⟨o2, e2, c2, m2, q2⟩ ?_ (by omega) _ _ _ _ ?_
          · simp only [List.length_cons, List.length_nil] at l3 l4
            simp only [List.size_toArray, bne_iff_ne, ne_eq]
            omega
          · exact ⟨.bl _, H, I, rfl, q _ g.tail.tail⟩
    rw [Option.map_eq_some_iff] at hz
    obtain ⟨b, hz', rfl⟩ := hz
    have hz : (∃ ks ds ls es, dx = .dic ks ds ∧ dy = .dic ls es ∧ sameDic ks ds ls es = true ∧ b = true) ∨ eqD dx dy = some b := by
      unfold eqDD at hz'
      split at hz'
      · split at hz'
        · cases hz'
          exact .inl ⟨_, _, _, _, rfl, rfl, by assumption, rfl⟩
        · cases hz'
      · exact .inr hz'
    rcases hz with ⟨ks, ds, ls, es, rfl, rfl, hs, rfl⟩ | hz'
    · obtain ⟨a, b, xs, ys, rfl, rfl, q1, q2, q3, q4⟩ := dic_sameF ex h1 h2 hs
      exact op_ne_dictR (by omega) pins s σ H _ _ v u Q I rx ry ⟨a, b, xs, ys, rfl, rfl, q1, q2, q3, q4, q _ g.tail.tail⟩
    obtain ⟨p, r, e1, e2, hd, rfl⟩ := eqD_some hz'
    obtain ⟨as, r1⟩ := Dp.reads I p x v (h1.dp ex e1) rx
    obtain ⟨bs, r2⟩ := Dp.reads I r y u (h2.dp ex e2) ry
    exact SeqAt.ne_plain r1 r2 (toPy_plain e1) (toPy_plain e2) (by omega) ⟨.bl _, H, I, rfl, q _ g.tail.tail⟩
  | Is =>
    intro pins s σ H x y v u Q I rx ry ⟨dx, dy, R, M, z, g, hz, q⟩
    obtain ⟨P, ex, h1, h2⟩ := g.fact2
    have e : (dy = .non ∧ z = dx.isNon) ∨ ∃ b, dy = .bl b ∧ z = isB dx b := by
      cases dy with
      | non =>
        have hz : some dx.isNon = some z := by cases dx <;> exact hz
        exact .inl ⟨rfl, (Option.some.inj hz).symm⟩
      | bl b =>
        have hz : some (isB dx b) = some z := by cases dx <;> exact hz
        exact .inr ⟨b, rfl, (Option.some.inj hz).symm⟩
      | _ => cases dx <;> cases hz
    rcases e with ⟨rfl, rfl⟩ | ⟨b, rfl, rfl⟩
    · cases h2
      exact op_isN pins s σ H _ _ v u Q I rx ry ⟨rfl, by rw [isNon_iff h1]; exact q _ g.tail.tail⟩
    · cases h2
      cases (show u = Value.bool b from ry)
      have q := q _ g.tail.tail
      have ot : ∀ {w : Value}, plainIs w (.bool b) = true → w ≠ .bool b → isB dx b = false → wpAny (model X.prog X.w) X.A (compareOp .Is w (.bool b)) (EP X pins σ Q) X.xe s := fun hp hne hb => by
        rw [hb] at q
        exact wpAny_is_other hp hne ⟨.bl false, H, I, rfl, q⟩
      cases h1 with
      | non => cases rx; exact ot rfl (fun e => by cases e) rfl
      | bl a =>
        cases (show v = Value.bool a from rx)
        by_cases e : a = b
        · subst e
          exact wpAny_is_self rfl ⟨.bl true, H, I, rfl, by simpa [isB] using q⟩
        · refine wpAny_is_other rfl (fun z => e (Value.bool.inj z)) ⟨.bl false, H, I, rfl, ?_⟩
          have e2 : isB (.bl a) b = false := by simp [isB, e]
          rw [e2] at q
          exact q
      | int i => obtain ⟨t, rfl⟩ := rx; exact ot rfl (fun e => by cases e) rfl
      | str i => obtain ⟨t, rfl⟩ := rx; exact ot rfl (fun e => by cases e) rfl
      | lst _ _ => cases rx; exact ot rfl (fun e => by cases e) rfl
      | frz _ _ => cases rx; exact ot rfl (fun e => by cases e) rfl
      | tup _ _ => cases rx; exact ot rfl (fun e => by cases e) rfl
      | dic _ _ _ => cases rx; exact ot rfl (fun e => by cases e) rfl
      | obj _ _ _ => cases rx; exact ot rfl (fun e => by cases e) rfl
  | IsNot =>
    intro pins s σ H x y v u Q I rx ry ⟨dx, dy, R, M, z, g, hz, q⟩
    obtain ⟨P, ex, h1, h2⟩ := g.fact2
    have e : (dy = .non ∧ z = !dx.isNon) ∨ ∃ b, dy = .bl b ∧ z = !(isB dx b) := by
      cases dy with
      | non =>
        have hz : some (!dx.isNon) = some z := by cases dx <;> exact hz
        exact .inl ⟨rfl, (Option.some.inj hz).symm⟩
      | bl b =>
        have hz : some (!(isB dx b)) = some z := by cases dx <;> exact hz
        exact .inr ⟨b, rfl, (Option.some.inj hz).symm⟩
      | _ => cases dx <;> cases hz
    rcases e with ⟨rfl, rfl⟩ | ⟨b, rfl, rfl⟩
    · cases h2
      exact op_notN pins s σ H _ _ v u Q I rx ry ⟨rfl, by rw [isNon_iff h1]; exact q _ g.tail.tail⟩
    · cases h2
      cases (show u = Value.bool b from ry)
      have q := q _ g.tail.tail
      have ot : ∀ {w : Value}, plainIs w (.bool b) = true → w ≠ .bool b → isB dx b = false → wpAny (model X.prog X.w) X.A (compareOp .IsNot w (.bool b)) (EP X pins σ Q) X.xe s := fun hp hne hb => by
        rw [hb] at q
        exact wpAny_isNot_other hp hne ⟨.bl true, H, I, rfl, q⟩
      cases h1 with
      | non => cases rx; exact ot rfl (fun e => by cases e) rfl
      | bl a =>
        cases (show v = Value.bool a from rx)
        by_cases e : a = b
        · subst e
          exact wpAny_isNot_self rfl ⟨.bl false, H, I, rfl, by simpa [isB] using q⟩
        · refine wpAny_isNot_other rfl (fun z => e (Value.bool.inj z)) ⟨.bl true, H, I, rfl, ?_⟩
          have e2 : isB (.bl a) b = false := by simp [isB, e]
          rw [e2] at q
          exact q
      | int i => obtain ⟨t, rfl⟩ := rx; exact ot rfl (fun e => by cases e) rfl
      | str i => obtain ⟨t, rfl⟩ := rx; exact ot rfl (fun e => by cases e) rfl
      | lst _ _ => cases rx; exact ot rfl (fun e => by cases e) rfl
      | frz _ _ => cases rx; exact ot rfl (fun e => by cases e) rfl
      | tup _ _ => cases rx; exact ot rfl (fun e => by cases e) rfl
      | dic _ _ _ => cases rx; exact ot rfl (fun e => by cases e) rfl
      | obj _ _ _ => cases rx; exact ot rfl (fun e => by cases e) rfl
  | Lt =>
    intro pins s σ H x y v u Q I rx ry ⟨dx, dy, R, M, z, g, hz, q⟩
    obtain ⟨P, ex, h1, h2⟩ := g.fact2
    cases h1 <;> cases h2 <;> cases hz
    exact op_lt pins s σ H _ _ v u Q I rx ry ⟨_, _, rfl, rfl, q _ g.tail.tail⟩
  | LtE =>
    intro pins s σ H x y v u Q I rx ry ⟨dx, dy, R, M, z, g, hz, q⟩
    obtain ⟨P, ex, h1, h2⟩ := g.fact2
    cases h1 <;> cases h2 <;> cases hz
    exact op_le pins s σ H _ _ v u Q I rx ry ⟨_, _, rfl, rfl, q _ g.tail.tail⟩
  | Gt =>
    intro pins s σ H x y v u Q I rx ry ⟨dx, dy, R, M, z, g, hz, q⟩
    obtain ⟨P, ex, h1, h2⟩ := g.fact2
    cases h1 <;> cases h2 <;> cases hz
    exact op_gt pins s σ H _ _ v u Q I rx ry ⟨_, _, rfl, rfl, q _ g.tail.tail⟩
  | GtE =>
    intro pins s σ H x y v u Q I rx ry ⟨dx, dy, R, M, z, g, hz, q⟩
    obtain ⟨P, ex, h1, h2⟩ := g.fact2
    cases h1 <;> cases h2 <;> cases hz
    exact op_ge pins s σ H _ _ v u Q I rx ry ⟨_, _, rfl, rfl, q _ g.tail.tail⟩
theorem isEmpty_rss {K : PySem.W.Frag} {P : Hp} {vs : List V} {ds : List D} (r : Rss K cl P vs ds) : vs.isEmpty = ds.isEmpty := by
  cases r <;> rfl
theorem truOk {K : PySem.W.Frag} {P H : Hp} {x : V} {d : D} {b : Bool} (ex : Ex P H) (h : Rs K cl P x d) (e : truD d = some b) : TruV K x H b := by
  cases h with
  | non => cases e; rfl
  | bl c => cases e; rfl
  | int i => cases e; rfl
  | str s =>
    simp only [truD] at e
    split at e
    · cases e
      exact ⟨by rw [sizeLine_eq]; omega, rfl⟩
    · cases e
  | lst p r => cases e; exact .inl ⟨_, SqL.of (ex _ _ p), by rw [isEmpty_rss r]⟩
  | frz p r => cases e
  | tup p r => cases e; exact .inr (.inl ⟨_, ex_t ex p, by rw [isEmpty_rss r]⟩)
  | dic p hl r => cases e
  | obj p hl r => cases e
/-- a value's truth -/
def rT (K : PySem.W.Frag) (cl : Nat → Addr) : V → Hp → (Bool → Hp → Prop) → Prop := fun x H Q => ∃ dx R M b, Good K cl R H (.val x dx .sh :: M) ∧ truD dx = some b ∧ ∀ H', Good K cl R H' M → Q b H'
end
end FB
namespace FB
open PySem L2 PyProof.Rows

/-! ### environments -/
inductive Envs : L2.St → FEnv → List Item → Prop
  | nil : Envs [] [] []
  | no {x : Option V} {σ : L2.St} {ρ : FEnv} {L : List Item} : Envs σ ρ L → Envs (x :: σ) (none :: ρ) L
  | yes {v : V} {d : D} {o : O} {σ : L2.St} {ρ : FEnv} {L : List Item} : Envs σ ρ L → Envs (some v :: σ) (some (d, o) :: ρ) (.val v d o :: L)
theorem Envs.get : ∀ {σ : L2.St} {ρ : FEnv} {L : List Item} {i : Nat} {d : D} {o : O}, Envs σ ρ L → ρ[i]? = some (some (d, o)) →
    ∃ v L', σ[i]? = some (some v) ∧ L.Perm (.val v d o :: L') ∧ (∀ d' o', ∃ L2, Envs σ (ρ.set i (some (d', o'))) L2 ∧ L2.Perm (.val v d' o' :: L')) ∧ (∃ L2, Envs σ (ρ.set i none) L2 ∧ L2.Perm L')
  | _, _, _, i, _, _, .nil, e => by simp at e
  | _, _, _, 0, _, _, (.no h), e => by simp at e
  | _, _, _, i + 1, d, o, (.no h), e => by
    obtain ⟨v, L', h1, h2, h3, L2, h4, h5⟩ := Envs.get (i := i) h (by simpa using e)
    refine ⟨v, L', by simpa using h1, h2, fun d' o' => ?_, L2, .no h4, h5⟩
    obtain ⟨L3, a, b⟩ := h3 d' o'
    exact ⟨L3, (.no a), b⟩
  | _, _, _, 0, d, o, (.yes h), e => by
    simp at e
    obtain ⟨rfl, rfl⟩ := e
    exact ⟨_, _, rfl, .refl _, fun d' o' => ⟨_, (.yes h), .refl _⟩, _, (.no h), .refl _⟩
  | _, _, _, i + 1, d, o, (.yes h), e => by
    obtain ⟨v, L', h1, h2, h3, L2, h4, h5⟩ := Envs.get (i := i) h (by simpa using e)
    refine ⟨v, _ :: L', by simpa using h1, (h2.cons _).trans (.swap _ _ _), fun d' o' => ?_, _, .yes h4, h5.cons _⟩
    obtain ⟨L3, a, b⟩ := h3 d' o'
    exact ⟨_, (.yes a), (b.cons _).trans (.swap _ _ _)⟩
theorem Envs.len : ∀ {σ : L2.St} {ρ : FEnv} {L : List Item}, Envs σ ρ L → σ.length = ρ.length
  | _, _, _, .nil => rfl
  | _, _, _, (.no h) => by rw [List.length_cons, List.length_cons, h.len]
  | _, _, _, (.yes h) => by rw [List.length_cons, List.length_cons, h.len]
/-- a slot is forgotten -/
theorem Envs.del : ∀ {σ : L2.St} {ρ : FEnv} {L : List Item} (i : Nat), Envs σ ρ L → ∃ M L', L.Perm (M ++ L') ∧ Envs σ (ρ.set i none) L' ∧ (∀ x : Option V, Envs (σ.set i x) (ρ.set i none) L')
  | _, _, _, i, .nil => ⟨[], [], .refl _, .nil, fun _ => .nil⟩
  | _, _, _, 0, (.no h) => ⟨[], _, .refl _, (.no h), fun _ => (.no h)⟩
  | _, _, _, i + 1, (.no h) => by
    obtain ⟨M, L', p, a, b⟩ := h.del i
    exact ⟨M, L', p, (.no a), fun x => .no (b x)⟩
  | _, _, _, 0, .yes (L := L) (v := v) (d := d) (o := o) h => ⟨[.val v d o], L, .refl _, (.no h), fun _ => (.no h)⟩
  | _, _, _, i + 1, (.yes h) => by
    obtain ⟨M, L', p, a, b⟩ := h.del i
    exact ⟨M, _ :: L', (p.cons _).trans List.perm_middle.symm, (.yes a), fun x => .yes (b x)⟩
/-- a slot is stored -/
theorem Envs.put : ∀ {σ : L2.St} {ρ : FEnv} {L : List Item} (i : Nat) (v : V) (d : D) (o : O), i < σ.length → Envs σ ρ L → ∃ M L' L2, L.Perm (M ++ L') ∧ L2.Perm (.val v d o :: L') ∧ Envs (σ.set i (some v)) (ρ.set i (some (d, o))) L2
  | _, _, _, i, _, _, _, hi, .nil => absurd hi (Nat.not_lt_zero _)
  | _, _, _, 0, v, d, o, _, .no (L := L) h => ⟨[], L, _, .refl _, .refl _, (.yes h)⟩
  | _, _, _, i + 1, v, d, o, hi, (.no h) => by
    obtain ⟨M, L', L2, p, q, a⟩ := h.put i v d o (Nat.lt_of_succ_lt_succ hi)
    exact ⟨M, L', L2, p, q, (.no a)⟩
  | _, _, _, 0, v, d, o, _, .yes (L := L) (v := v') (d := d') (o := o') h => ⟨[.val v' d' o'], L, _, .refl _, .refl _, (.yes h)⟩
  | _, _, _, i + 1, v, d, o, hi, (.yes h) => by
    obtain ⟨M, L', L2, p, q, a⟩ := h.put i v d o (Nat.lt_of_succ_lt_succ hi)
    exact ⟨M, _ :: L', _, (p.cons _).trans List.perm_middle.symm, (q.cons _).trans (.swap _ _ _), (.yes a)⟩

/-- an empty slot is filled by what stands there -/
theorem Envs.give : ∀ {σ : L2.St} {ρ : FEnv} {L : List Item} {i : Nat} {v : V} (d : D) (o : O), Envs σ ρ L → ρ[i]? = some none → σ[i]? = some (some v) → ∃ L2, Envs σ (ρ.set i (some (d, o))) L2 ∧ L2.Perm (.val v d o :: L)
  | _, _, _, i, _, _, _, .nil, e, _ => by simp at e
  | _, _, _, 0, v, d, o, .no h, _, e => by
    simp at e
    subst e
    exact ⟨_, .yes h, .refl _⟩
  | _, _, _, i + 1, v, d, o, .no h, e1, e2 => by
    obtain ⟨L2, a, b⟩ := Envs.give (i := i) d o h (by simpa using e1) (by simpa using e2)
    exact ⟨L2, .no a, b⟩
  | _, _, _, 0, v, d, o, .yes h, e, _ => by simp at e
  | _, _, _, i + 1, v, d, o, .yes h, e1, e2 => by
    obtain ⟨L2, a, b⟩ := Envs.give (i := i) d o h (by simpa using e1) (by simpa using e2)
    exact ⟨_, .yes a, (b.cons _).trans (.swap _ _ _)⟩
/-! ### readings by the semantics -/
section
variable (K : PySem.W.Frag) (cl : Nat → Addr)
def Sta (σ : L2.St) (H R : Hp) (ρ : FEnv) (M : List Item) : Prop := ∃ Le, Envs σ ρ Le ∧ Good K cl R H (Le ++ M)
/-- an exception's own dict -/
def XOk (H : Hp) (x : Exn) (d : Option Addr) : Prop := (x.fs = [] ∧ d = none) ∨ (x.fs ≠ [] ∧ ∃ (dx : Addr) (vs : List V), d = some dx ∧ H dx = some (.xd (x.fs.zip vs)) ∧ x.fs.length = vs.length ∧ Paired Flat vs x.ds)
variable {α β : Type}
def Post (rep : β → α → List Item → Prop) (R : Hp) (M : List Item) (W : WX) (σ : L2.St) (Q : β → Hp → Prop) : Ev α → Prop
  | .ok a ρ' => ∀ b H' N, rep b a N → Sta K cl σ H' R ρ' (N ++ M) → Q b H'
  | .exc x ρ' => ∀ H' dx, Sta K cl σ H' R ρ' M → XOk H' x dx → W (.ref (cl x.c)) dx σ H'
  | .stuck => False
def Rd1 (rep : β → α → List Item → Prop) (W : WX) (f : FEnv → Ev α) : L2.St → Hp → (β → Hp → Prop) → Prop := fun σ H Q => ∃ ρ R M, Sta K cl σ H R ρ M ∧ Post K cl rep R M W σ Q (f ρ)
end
def repV : V → DO → List Item → Prop := fun v x N => N = [.val v x.1 x.2]
def repB : Bool → Bool → List Item → Prop := fun b c N => b = c ∧ N = []
def valsO (vs : List V) (xs : List DO) : List Item := vals vs (xs.map (·.1)) (xs.map (·.2))
/-- the held ones stand in their slots -/
def HoldOk (σ : L2.St) (hs : List (Option Nat)) (vs : List V) : Prop := ∀ (p j : Nat) (v : V), hs[p]? = some (some j) → vs[p]? = some v → σ[j]? = some (some v)
def repVs (σ : L2.St) (hs : List (Option Nat)) : List V → List DO → List Item → Prop := fun vs xs N => vs.length = xs.length ∧ vs.length = hs.length ∧ N = valsO vs xs ∧ HoldOk σ hs vs
def repO : Option Int → Option Int → List Item → Prop := fun b c N => b = c ∧ N = []

section
variable {K : PySem.W.Frag} {cl : Nat → Addr} {σ : L2.St} {H H' R : Hp} {ρ ρ' : FEnv} {M N : List Item} {W : WX} {α β γ δ : Type}
theorem Sta.take {i : Nat} {d : D} {o : O} (h : Sta K cl σ H R ρ M) (e : ρ[i]? = some (some (d, o))) : ∃ v, σ[i]? = some (some v) ∧ Sta K cl σ H R (ρ.set i none) (.val v d o :: M) := by
  obtain ⟨Le, a, b⟩ := h
  obtain ⟨v, L', h1, h2, _, L2, h4, h5⟩ := a.get e
  refine ⟨v, h1, L2, h4, b.perm ?_⟩
  exact (h2.append_right M).trans ((List.perm_middle.symm).trans (h5.symm.append_right _))
theorem Sta.give {i : Nat} {v : V} {d : D} {o : O} (h : Sta K cl σ H R ρ (.val v d o :: M)) (e : ρ[i]? = some none) (e2 : σ[i]? = some (some v)) : Sta K cl σ H R (ρ.set i (some (d, o))) M := by
  obtain ⟨Le, a, b⟩ := h
  obtain ⟨L2, h1, h2⟩ := a.give d o e e2
  exact ⟨L2, h1, b.perm (List.perm_middle.trans (h2.symm.append_right M))⟩
theorem Sta.item {N' : List Item} (h : Sta K cl σ H R ρ (N ++ M)) (k : ∀ L, Good K cl R H (N ++ L) → Good K cl R H' (N' ++ L)) : Sta K cl σ H' R ρ (N' ++ M) := by
  obtain ⟨Le, a, b⟩ := h
  have p : ∀ N : List Item, (Le ++ (N ++ M)).Perm (N ++ (Le ++ M)) := fun N => by
    rw [← List.append_assoc, ← List.append_assoc]
    exact List.perm_append_comm.append_right _
  exact ⟨Le, a, (k _ (b.perm (p N))).perm (p N').symm⟩
theorem Sta.perm (h : Sta K cl σ H R ρ M) (p : M.Perm N) : Sta K cl σ H R ρ N := let ⟨Le, a, b⟩ := h; ⟨Le, a, b.perm (p.append_left _)⟩
theorem Sta.dropL (h : Sta K cl σ H R ρ (N ++ M)) : Sta K cl σ H R ρ M := by
  obtain ⟨Le, a, b⟩ := h
  refine ⟨Le, a, ?_⟩
  have p : (Le ++ (N ++ M)).Perm (N ++ (Le ++ M)) := by
    rw [← List.append_assoc, ← List.append_assoc]
    exact List.perm_append_comm.append_right _
  exact (b.perm p).tailA
theorem Sta.heap (h : Sta K cl σ H R ρ M) (k : Ex H H') : Sta K cl σ H' R ρ M := let ⟨Le, a, b⟩ := h; ⟨Le, a, b.heap k⟩
/-- the state as one assertion, what is asked first -/
theorem Sta.front (h : Sta K cl σ H R ρ (N ++ M)) : ∃ Le, Envs σ ρ Le ∧ Good K cl R H (N ++ (Le ++ M)) := by
  obtain ⟨Le, a, b⟩ := h
  refine ⟨Le, a, b.perm ?_⟩
  rw [← List.append_assoc, ← List.append_assoc]
  exact List.perm_append_comm.append_right _
theorem Sta.ofFront {Le : List Item} (a : Envs σ ρ Le) (b : Good K cl R H (N ++ (Le ++ M))) : Sta K cl σ H R ρ (N ++ M) := by
  refine ⟨Le, a, b.perm ?_⟩
  rw [← List.append_assoc, ← List.append_assoc]
  exact List.perm_append_comm.append_right _
/-- the first part of a bind, what came before kept beside -/
theorem Post.bindF {rep : β → α → List Item → Prop} {rep' : δ → γ → List Item → Prop} {x : Ev α} {g : α → FEnv → Ev γ} {Q : δ → Hp → Prop} (N : List Item) (p : Post K cl rep' R M W σ Q (x.bind g)) :
    Post K cl rep R (N ++ M) W σ (fun b H1 => ∃ a N2 ρ1, rep b a N2 ∧ Sta K cl σ H1 R ρ1 (N2 ++ (N ++ M)) ∧ Post K cl rep' R M W σ Q (g a ρ1)) x := by
  cases x with
  | ok a ρ1 => exact fun b H1 N2 hr s1 => ⟨a, N2, ρ1, hr, s1, p⟩
  | exc x ρ1 => exact fun H' dx s k => p H' dx s.dropL k
  | stuck => exact p
theorem Post.mono {rep : β → α → List Item → Prop} {x : Ev α} {Q Q' : β → Hp → Prop} (p : Post K cl rep R M W σ Q x) (h : ∀ b H, Q b H → Q' b H) : Post K cl rep R M W σ Q' x := by
  cases x with
  | ok a ρ1 => exact fun b H1 N2 hr s1 => h b H1 (p b H1 N2 hr s1)
  | exc x ρ1 => exact p
  | stuck => exact p
theorem Post.opt {rep : β → γ → List Item → Prop} {Q : β → Hp → Prop} {o : Option α} {f : α → Ev γ} (h : Post K cl rep R M W σ Q (opt o ρ f)) : ∃ a, o = some a ∧ Post K cl rep R M W σ Q (f a) := by
  cases o with
  | none => exact h.elim
  | some a => exact ⟨a, rfl, h⟩
end
theorem PE.of {X : Cx} {e : Expr} {t t' : TE} (h : PE X e t) (k : ∀ σ H Q, t' σ H Q → t σ H Q) : PE X e t' := ⟨fun pins s σ H Q I q => h.run pins s σ H Q I (k σ H Q q)⟩
theorem PT.of {X : Cx} {e : Expr} {t t' : TT} (h : PT X e t) (k : ∀ σ H Q, t' σ H Q → t σ H Q) : PT X e t' := ⟨fun pins s σ H Q I q => h.run pins s σ H Q I (k σ H Q q)⟩
theorem PA.of {X : Cx} {e : List Expr} {t t' : TA} (h : PA X e t) (k : ∀ σ H Q, t' σ H Q → t σ H Q) : PA X e t' := ⟨fun pos pins s σ H Q I q => h.run pos pins s σ H Q I (k σ H Q q)⟩
theorem PW.of {X : Cx} {e : Expr} {t t' : TT} (h : PW X e t) (k : ∀ σ H Q, t' σ H Q → t σ H Q) : PW X e t' := ⟨fun wh pins s σ H Q I q => h.run wh pins s σ H Q I (k σ H Q q)⟩

/-! ### expressions -/
abbrev tE (K : PySem.W.Frag) (cl : Nat → Addr) (W : WX) (f : FEnv → Ev DO) : TE := Rd1 K cl repV W f
abbrev tT (K : PySem.W.Frag) (cl : Nat → Addr) (W : WX) (f : FEnv → Ev Bool) : TT := Rd1 K cl repB W f
def tA (K : PySem.W.Frag) (cl : Nat → Addr) (W : WX) (hs : List (Option Nat)) (f : FEnv → Ev (List DO)) : TA := fun σ H Q => Rd1 K cl (repVs σ hs) W f σ H Q
section
variable {X : Cx} {cl : Nat → Addr} {W : WX} {a b c e : Expr} {fa fb fc : FEnv → Ev DO} {pos : Pos}
/-- the first operand shared -/
theorem sh_first {K : PySem.W.Frag} {R H : Hp} {v : V} {x : DO} {L : List Item} (g : Good K cl R H (.val v x.1 x.2 :: L)) : Good K cl R H (.val v x.1 .sh :: L) := g.share
theorem sh_two {K : PySem.W.Frag} {R H : Hp} {v w : V} {x y : DO} {L : List Item} (g : Good K cl R H (.val w y.1 y.2 :: .val v x.1 x.2 :: L)) : Good K cl R H (.val v x.1 .sh :: .val w y.1 .sh :: L) :=
  ((g.share).perm (.swap _ _ _)).share
theorem se_bin {op : Operator} (ha : PE X a (tE X.K cl W fa)) (hb : PE X b (tE X.K cl W fb)) :
    PE X (.BinOp a op b pos) (tE X.K cl W fun ρ => (fa ρ).bind fun x ρ1 => (fb ρ1).bind fun y ρ2 => opt (binD op x.1 y.1) ρ2 fun z => .ok z ρ2) :=
  PE.of (pe_op (opB (cl := cl) op) ha hb) fun σ H Q ⟨ρ, R, M, s, p⟩ =>
    ⟨ρ, R, M, s, (Post.bindF [] p).mono fun v H1 ⟨x, N, ρ1, hr, s1, p1⟩ => ⟨ρ1, R, N ++ M, s1, (Post.bindF N p1).mono fun w H2 ⟨y, N2, ρ2, hr2, s2, p2⟩ => by
      obtain ⟨z, hz, p3⟩ := p2.opt
      subst hr
      subst hr2
      obtain ⟨Le, he, g⟩ := Sta.front (N := [.val w y.1 y.2, .val v x.1 x.2]) s2
      exact ⟨x.1, y.1, R, Le ++ M, z, sh_two g, hz, fun v' H' g' => p3 v' H' _ rfl (Sta.ofFront (N := [.val v' z.1 z.2]) he g')⟩⟩⟩
/-! names, constants -/
theorem set_same {α : Type} {l : List α} {i : Nat} {x : α} (h : l[i]? = some x) : l.set i x = l := by
  apply List.ext_getElem?
  intro j
  by_cases hj : i = j
  · subst hj
    rw [List.getElem?_set_self (List.getElem?_eq_some_iff.mp h).1, h]
  · rw [List.getElem?_set_ne hj]
theorem set_set {α : Type} {l : List α} {i : Nat} {x y : α} : (l.set i x).set i y = l.set i y := by simp
theorem rdV_cases {i : Nat} {ρ : FEnv} {Z : Ev DO → Prop} (h : Z (rdV i ρ)) (hs : ¬ Z .stuck) : ∃ d o, ρ[i]? = some (some (d, o)) ∧ Z (.ok (d, .sh) (ρ.set i (some (d, .sh)))) := by
  unfold rdV at h
  split at h
  · rename_i d e
    exact ⟨d, .sh, e, by rw [set_same e]; exact h⟩
  · rename_i d o _ e
    exact ⟨d, o, e, h⟩
  · exact absurd h hs
theorem se_v {i : Nat} {x : Str} (hN : X.N[i]? = some x) (hv : Vis X.env.scope x) (hd : (x == ("__debug__" : Str)) = false) (hcd : (x == ("__classdict__" : Str)) = false) : PE X (.Name x pos) (tE X.K cl W (rdV i)) :=
  PE.of (pe_var hN hv hd hcd) fun σ H Q ⟨ρ, R, M, s, p⟩ => by
    obtain ⟨d, o, e, p⟩ := rdV_cases (Z := Post X.K cl repV R M W σ Q) p fun z => z
    obtain ⟨v, hv, s1⟩ := s.take e
    refine ⟨v, hv, p v H _ rfl ?_⟩
    have hi : i < ρ.length := (List.getElem?_eq_some_iff.mp e).1
    have s2 : Sta X.K cl σ H R (ρ.set i none) (.val v d .sh :: .val v d .sh :: M) := Sta.item (N := [.val v d o]) (N' := [.val v d .sh, .val v d .sh]) s1 fun L g => g.share.dup
    have s3 := s2.give (by rw [List.getElem?_set_self hi]) hv
    rw [set_set] at s3
    exact s3
theorem se_kv {v : V} {d : D} (h : PE X e (tC v)) (hf : Flat v d) : PE X e (tE X.K cl W fun ρ => .ok (d, .sh) ρ) :=
  PE.of h fun σ H Q ⟨ρ, R, M, s, p⟩ => p v H _ rfl (Sta.item (N := []) (N' := [.val v d .sh]) s fun L g => g.flat hf)
theorem se_k {c : Const} {k : Nat} {d : D} (hc : constD c = some d) : PE X (.Constant c k pos) (tE X.K cl W fun ρ => .ok (d, .sh) ρ) := by
  cases c with
  | none => cases hc; exact se_kv pe_non .non
  | bool b => cases hc; exact se_kv pe_bl (.bl b)
  | int i => cases hc; exact se_kv pe_int (.int i)
  | str x => cases hc; exact se_kv pe_str (.str x)
  | _ => cases hc
/-- a module's constant: its datum stands whatever the heap -/
def GlOk (K : PySem.W.Frag) (cl : Nat → Addr) (u : Value) (d : D) : Prop := ∃ v, RelV v u ∧ ∀ P, Rs K cl P v d
theorem Good.rs {K : PySem.W.Frag} {R H : Hp} {L : List Item} {v : V} {d : D} (g : Good K cl R H L) (h : ∀ P, Rs K cl P v d) : Good K cl R H (.val v d .sh :: L) := by
  obtain ⟨P, f, a, b, c, n, e⟩ := g
  exact ⟨P, f, a, b, c, n, .val (f := []) (.sh (h P)) e⟩
theorem se_g {x : Str} {u : Value} {d : D} (hg : Gl X x) (hm : X.mg x = some u) (ok : GlOk X.K cl u d) (hd : (x == ("__debug__" : Str)) = false) : PE X (.Name x pos) (tE X.K cl W fun ρ => .ok (d, .sh) ρ) := by
  obtain ⟨v, r, h⟩ := ok
  exact PE.of (pe_glob hg hm r hd) fun σ H Q ⟨ρ, R, M, s, p⟩ => p v H _ rfl (Sta.item (N := []) (N' := [.val v d .sh]) s fun L g => g.rs h)
theorem se_un {op : UnaryOp} (ha : PE X a (tE X.K cl W fa)) : PE X (.UnaryOp op a pos) (tE X.K cl W fun ρ => (fa ρ).bind fun x ρ1 => opt (unD op x.1) ρ1 fun z => .ok (z, .sh) ρ1) :=
  PE.of (pe_un (opU (cl := cl) op) ha) fun σ H Q ⟨ρ, R, M, s, p⟩ =>
    ⟨ρ, R, M, s, (Post.bindF [] p).mono fun v H1 ⟨x, N, ρ1, hr, s1, p1⟩ => by
      obtain ⟨z, hz, p2⟩ := p1.opt
      subst hr
      obtain ⟨Le, he, g⟩ := Sta.front (N := [.val v x.1 x.2]) s1
      exact ⟨x.1, R, Le ++ M, z, g.share, hz, fun v' H' g' => p2 v' H' _ rfl (Sta.ofFront (N := [.val v' z .sh]) he g')⟩⟩
/-! comparisons -/
theorem cmp_read {op : CmpOp} {σ : L2.St} {H : Hp} {Q : Bool → Hp → Prop} (h : Rd1 X.K cl repB W (fun ρ => (fa ρ).bind fun x ρ1 => (fb ρ1).bind fun y ρ2 => opt (cmpD op x.1 y.1) ρ2 fun z => .ok z ρ2) σ H Q) :
    tOp (rC X.K cl (cmpD op)) (tE X.K cl W fa) (tE X.K cl W fb) σ H (fun v H' => ∃ k, v = .bl k ∧ Q k H') := by
  obtain ⟨ρ, R, M, s, p⟩ := h
  exact ⟨ρ, R, M, s, (Post.bindF [] p).mono fun v H1 ⟨x, N, ρ1, hr, s1, p1⟩ => ⟨ρ1, R, N ++ M, s1, (Post.bindF N p1).mono fun w H2 ⟨y, N2, ρ2, hr2, s2, p2⟩ => by
    obtain ⟨z, hz, p3⟩ := p2.opt
    subst hr
    subst hr2
    obtain ⟨Le, he, g⟩ := Sta.front (N := [.val w y.1 y.2, .val v x.1 x.2]) s2
    exact ⟨x.1, y.1, R, Le ++ M, z, sh_two g, hz, fun H' g' => ⟨z, rfl, p3 z H' _ ⟨rfl, rfl⟩ (Sta.ofFront (N := []) he g')⟩⟩⟩⟩
/-- a bool answer as a datum -/
theorem bl_of {f : FEnv → Ev Bool} {σ : L2.St} {H : Hp} {Q : VK} (h : Rd1 X.K cl repV W (fun ρ => (f ρ).bind fun z ρ2 => .ok (.bl z, .sh) ρ2) σ H Q) : Rd1 X.K cl repB W f σ H (fun k H' => Q (.bl k) H') := by
  obtain ⟨ρ, R, M, s, p⟩ := h
  refine ⟨ρ, R, M, s, ?_⟩
  dsimp only at p
  cases e : f ρ with
  | ok z ρ1 =>
    rw [e] at p
    rintro k H' N ⟨rfl, rfl⟩ s1
    exact p (.bl k) H' _ rfl (Sta.item (N := []) (N' := [.val (.bl k) (.bl k) .sh]) s1 fun L g => g.flat (.bl k))
  | exc x ρ1 =>
    rw [e] at p
    exact p
  | stuck =>
    rw [e] at p
    exact p
theorem bind_assoc {α β γ : Type} (x : Ev α) (f : α → FEnv → Ev β) (g : β → FEnv → Ev γ) : (x.bind f).bind g = x.bind fun a ρ => (f a ρ).bind g := by cases x <;> rfl
theorem bind_opt {α β γ : Type} (o : Option α) (ρ : FEnv) (f : α → Ev β) (g : β → FEnv → Ev γ) : (opt o ρ f).bind g = opt o ρ fun a => (f a).bind g := by cases o <;> rfl
theorem cmp_bl {op : CmpOp} : (fun ρ => (fa ρ).bind fun x ρ1 => (fb ρ1).bind fun y ρ2 => opt (cmpD op x.1 y.1) ρ2 fun z => .ok (D.bl z, O.sh) ρ2) =
    fun ρ => ((fun ρ => (fa ρ).bind fun x ρ1 => (fb ρ1).bind fun y ρ2 => opt (cmpD op x.1 y.1) ρ2 fun z => .ok z ρ2) ρ).bind fun z ρ2 => .ok (D.bl z, O.sh) ρ2 := by
  funext ρ
  simp only [bind_assoc, bind_opt]
  rfl
theorem se_cmp {op : CmpOp} (hu : X.A.units + 64 < cLine) (ha : PE X a (tE X.K cl W fa)) (hb : PE X b (tE X.K cl W fb)) (hm : behindInMarks op b = false) :
    PE X (.Compare a [op] [b] pos) (tE X.K cl W fun ρ => (fa ρ).bind fun x ρ1 => (fb ρ1).bind fun y ρ2 => opt (cmpD op x.1 y.1) ρ2 fun z => .ok (.bl z, .sh) ρ2) := by
  rw [cmp_bl]
  exact PE.of (pe_cmpR (opC (cl := cl) hu op) ha hb hm) fun σ H Q h => by
    have h1 := cmp_read (bl_of h)
    obtain ⟨ρ, R, M, s, p⟩ := h1
    exact ⟨ρ, R, M, s, p.mono fun v H1 ⟨ρ2, R2, M2, s2, p2⟩ => ⟨ρ2, R2, M2, s2, p2.mono fun w H2 ⟨dx, dy, R3, M3, z, g, hz, q⟩ => ⟨dx, dy, R3, M3, z, g, hz, fun H' g' => by
      obtain ⟨k, e, q'⟩ := q H' g'
      cases e
      exact q'⟩⟩⟩
theorem st_cmp {op : CmpOp} (hu : X.A.units + 64 < cLine) (ha : PE X a (tE X.K cl W fa)) (hb : PE X b (tE X.K cl W fb)) (hm : behindInMarks op b = false) :
    PT X (.Compare a [op] [b] pos) (tT X.K cl W fun ρ => (fa ρ).bind fun x ρ1 => (fb ρ1).bind fun y ρ2 => opt (cmpD op x.1 y.1) ρ2 fun z => .ok z ρ2) :=
  PT.of (pt_cmpR (opC (cl := cl) hu op) ha hb hm) fun σ H Q h => cmp_read h
/-! truth, and, or, not -/
theorem st_e (ha : PE X a (tE X.K cl W fa)) (he : ∀ whole, isTrue a X.env whole = (do let v ← whole; standAt a.pos; holding [v] (truthy v))) : PT X a (tT X.K cl W fun ρ => (fa ρ).bind fun x ρ1 => opt (truD x.1) ρ1 fun b => .ok b ρ1) :=
  PT.of (pt_truth ha he) fun σ H Q ⟨ρ, R, M, s, p⟩ => ⟨ρ, R, M, s, (Post.bindF [] p).mono fun v H1 ⟨x, N, ρ1, hr, s1, p1⟩ => by
    obtain ⟨b, hb, p2⟩ := p1.opt
    subst hr
    obtain ⟨Le, he, g⟩ := Sta.front (N := [.val v x.1 x.2]) s1
    obtain ⟨P, ex, h1⟩ := g.share.fact1
    exact ⟨b, truOk ex h1 hb, p2 b H1 _ ⟨rfl, rfl⟩ (Sta.ofFront (N := []) he g.tail)⟩⟩
variable {tA' tB' : FEnv → Ev Bool} {rest : List Expr}
theorem Rd1.bl {rep' : Bool → Bool → List Item → Prop} : True := trivial
theorem st_and (ha : PT X a (tT X.K cl W tA')) (hb : PW X (.BoolOp .And (b :: rest) pos) (tT X.K cl W tB')) : PW X (.BoolOp .And (a :: b :: rest) pos) (tT X.K cl W fun ρ => (tA' ρ).bind fun c ρ1 => if c then tB' ρ1 else .ok false ρ1) :=
  PW.of (pw_and ha hb) fun σ H Q ⟨ρ, R, M, s, p⟩ => ⟨ρ, R, M, s, (Post.bindF [] p).mono fun v H1 ⟨x, N, ρ1, hr, s1, p1⟩ => by
    obtain ⟨rfl, rfl⟩ := hr
    cases v with
    | true => exact ⟨ρ1, R, M, s1, p1⟩
    | false => exact p1 false H1 _ ⟨rfl, rfl⟩ s1⟩
theorem st_or (ha : PT X a (tT X.K cl W tA')) (hb : PW X (.BoolOp .Or (b :: rest) pos) (tT X.K cl W tB')) : PW X (.BoolOp .Or (a :: b :: rest) pos) (tT X.K cl W fun ρ => (tA' ρ).bind fun c ρ1 => if c then .ok true ρ1 else tB' ρ1) :=
  PW.of (pw_or ha hb) fun σ H Q ⟨ρ, R, M, s, p⟩ => ⟨ρ, R, M, s, (Post.bindF [] p).mono fun v H1 ⟨x, N, ρ1, hr, s1, p1⟩ => by
    obtain ⟨rfl, rfl⟩ := hr
    cases v with
    | false => exact ⟨ρ1, R, M, s1, p1⟩
    | true => exact p1 true H1 _ ⟨rfl, rfl⟩ s1⟩
theorem st_not (ha : PT X a (tT X.K cl W tA')) : PT X (.UnaryOp .Not a pos) (tT X.K cl W fun ρ => (tA' ρ).bind fun c ρ1 => .ok (!c) ρ1) :=
  PT.of (pt_not ha) fun σ H Q ⟨ρ, R, M, s, p⟩ => ⟨ρ, R, M, s, (Post.bindF [] p).mono fun v H1 ⟨x, N, ρ1, hr, s1, p1⟩ => by
    obtain ⟨rfl, rfl⟩ := hr
    exact p1 (!v) H1 _ ⟨rfl, rfl⟩ s1⟩
/-- a datum that is a bool -/
theorem bool_of {R H : Hp} {v : V} {o : O} {c : Bool} {L : List Item} {K : PySem.W.Frag} (g : Good K cl R H (.val v (.bl c) o :: L)) : v = .bl c := by
  obtain ⟨P, ex, h1⟩ := g.share.fact1
  cases h1
  rfl
theorem int_of {R H : Hp} {v : V} {o : O} {c : Int} {L : List Item} {K : PySem.W.Frag} (g : Good K cl R H (.val v (.int c) o :: L)) : v = .int c := by
  obtain ⟨P, ex, h1⟩ := g.share.fact1
  cases h1
  rfl
theorem se_bnot (ha : PE X a (tE X.K cl W fa)) : PE X (.UnaryOp .Not a pos) (tE X.K cl W fun ρ => (fa ρ).bind fun x ρ1 => (match x.1 with
    | .bl b => .ok (.bl (!b), .sh) ρ1
    | _ => .stuck)) :=
  PE.of (pe_not ha) fun σ H Q ⟨ρ, R, M, s, p⟩ => ⟨ρ, R, M, s, (Post.bindF [] p).mono fun v H1 ⟨x, N, ρ1, hr, s1, p1⟩ => by
    subst hr
    obtain ⟨Le, he, g⟩ := Sta.front (N := [.val v x.1 x.2]) s1
    obtain ⟨d, o⟩ := x
    cases d with
    | bl b => exact ⟨b, bool_of g, p1 _ H1 _ rfl (Sta.ofFront (N := [.val (.bl (!b)) (.bl (!b)) .sh]) he (g.tail.flat (.bl _)))⟩
    | _ => exact p1.elim⟩
theorem se_band (ha : PE X a (tE X.K cl W fa)) (hb : PE X (.BoolOp .And (b :: rest) pos) (tE X.K cl W fb)) : PE X (.BoolOp .And (a :: b :: rest) pos) (tE X.K cl W fun ρ => (fa ρ).bind fun x ρ1 => (match x.1 with
    | .bl c => if c then fb ρ1 else .ok (.bl false, .sh) ρ1
    | _ => .stuck)) :=
  PE.of (pe_and ha hb) fun σ H Q ⟨ρ, R, M, s, p⟩ => ⟨ρ, R, M, s, (Post.bindF [] p).mono fun v H1 ⟨x, N, ρ1, hr, s1, p1⟩ => by
    subst hr
    obtain ⟨Le, he, g⟩ := Sta.front (N := [.val v x.1 x.2]) s1
    obtain ⟨d, o⟩ := x
    cases d with
    | bl c =>
      refine ⟨c, bool_of g, ?_⟩
      cases c with
      | true => exact ⟨ρ1, R, M, s1.dropL, p1⟩
      | false => exact p1 _ H1 _ rfl (Sta.ofFront (N := [.val (.bl false) (.bl false) .sh]) he (g.tail.flat (.bl _)))
    | _ => exact p1.elim⟩
theorem se_bor2 (ha : PE X a (tE X.K cl W fa)) (hb : PE X (.BoolOp .Or (b :: rest) pos) (tE X.K cl W fb)) : PE X (.BoolOp .Or (a :: b :: rest) pos) (tE X.K cl W fun ρ => (fa ρ).bind fun x ρ1 => (match x.1 with
    | .bl c => if c then .ok (.bl true, .sh) ρ1 else fb ρ1
    | _ => .stuck)) :=
  PE.of (pe_or ha hb) fun σ H Q ⟨ρ, R, M, s, p⟩ => ⟨ρ, R, M, s, (Post.bindF [] p).mono fun v H1 ⟨x, N, ρ1, hr, s1, p1⟩ => by
    subst hr
    obtain ⟨Le, he, g⟩ := Sta.front (N := [.val v x.1 x.2]) s1
    obtain ⟨d, o⟩ := x
    cases d with
    | bl c =>
      refine ⟨c, bool_of g, ?_⟩
      cases c with
      | false => exact ⟨ρ1, R, M, s1.dropL, p1⟩
      | true => exact p1 _ H1 _ rfl (Sta.ofFront (N := [.val (.bl true) (.bl true) .sh]) he (g.tail.flat (.bl _)))
    | _ => exact p1.elim⟩
theorem se_ife (hc : PT X c (tT X.K cl W tA')) (ha : PE X a (tE X.K cl W fa)) (hb : PE X b (tE X.K cl W fb)) : PE X (.IfExp c a b pos) (tE X.K cl W fun ρ => (tA' ρ).bind fun c ρ1 => if c then fa ρ1 else fb ρ1) :=
  PE.of (pe_ifExp hc ha hb) fun σ H Q ⟨ρ, R, M, s, p⟩ => ⟨ρ, R, M, s, (Post.bindF [] p).mono fun v H1 ⟨x, N, ρ1, hr, s1, p1⟩ => by
    obtain ⟨rfl, rfl⟩ := hr
    cases v with
    | true => exact ⟨ρ1, R, M, s1, p1⟩
    | false => exact ⟨ρ1, R, M, s1, p1⟩⟩
/-! a < b < c -/
theorem chain_read {o1 o2 : CmpOp} {fc : FEnv → Ev DO} {σ : L2.St} {H : Hp} {Q : VK} (h : Rd1 X.K cl repV W (fun ρ => (fa ρ).bind fun x ρ1 => (fb ρ1).bind fun y ρ2 => opt (cmpD o1 x.1 y.1) ρ2 fun r =>
      if r then (fc ρ2).bind fun z ρ3 => opt (cmpD o2 y.1 z.1) ρ3 fun r2 => .ok (.bl r2, .sh) ρ3 else .ok (.bl false, .sh) ρ2) σ H Q) :
    tChain (rC X.K cl (cmpD o1)) (rC X.K cl (cmpD o2)) (tE X.K cl W fa) (tE X.K cl W fb) (tE X.K cl W fc) σ H Q := by
  obtain ⟨ρ, R, M, s, p⟩ := h
  refine ⟨ρ, R, M, s, (Post.bindF [] p).mono fun v H1 ⟨x, N, ρ1, hr, s1, p1⟩ => ⟨ρ1, R, N ++ M, s1, (Post.bindF N p1).mono fun w H2 ⟨y, N2, ρ2, hr2, s2, p2⟩ => ?_⟩⟩
  obtain ⟨r, hz, p3⟩ := p2.opt
  subst hr
  subst hr2
  obtain ⟨Le, he, g⟩ := Sta.front (N := [.val w y.1 y.2, .val v x.1 x.2]) s2
  -- the middle one is kept
  have g0 : Good X.K cl R H2 (.val v x.1 .sh :: .val w y.1 .sh :: .val w y.1 .sh :: (Le ++ M)) := (((sh_two g).perm (.swap _ _ _)).dup).perm (by
    exact (List.Perm.cons _ (.swap _ _ _)).trans (.swap _ _ _))
  refine ⟨x.1, y.1, R, .val w y.1 .sh :: (Le ++ M), r, g0, hz, fun H3 g3 => ⟨r, rfl, ?_⟩⟩
  cases r with
  | false => exact p3 _ H3 _ rfl (Sta.ofFront (N := [.val (.bl false) (.bl false) .sh]) he (g3.tail.flat (.bl _)))
  | true =>
    refine ⟨ρ2, R, [.val w y.1 .sh] ++ M, Sta.ofFront (N := [.val w y.1 .sh]) he g3, (Post.bindF [.val w y.1 .sh] p3).mono fun u H4 ⟨z, N4, ρ4, hr4, s4, p4⟩ => ?_⟩
    subst hr4
    obtain ⟨r2, hz2, p5⟩ := p4.opt
    obtain ⟨Le4, he4, g4⟩ := Sta.front (N := [.val u z.1 z.2, .val w y.1 .sh]) s4
    exact ⟨y.1, z.1, R, Le4 ++ M, r2, (g4.share).perm (.swap _ _ _), hz2, fun H5 g5 => p5 _ H5 _ rfl (Sta.ofFront (N := [.val (.bl r2) (.bl r2) .sh]) he4 (g5.flat (.bl _)))⟩
/-! arguments, displays -/
theorem sa_nil : PA X [] (tA X.K cl W [] fun ρ => .ok [] ρ) := PA.of pa_nil fun σ H Q ⟨ρ, R, M, s, p⟩ => p [] H _ ⟨rfl, rfl, rfl, fun p j v h => by simp at h⟩ s
variable {fs : FEnv → Ev (List DO)} {es : List Expr} {hs : List (Option Nat)}
/-- an argument's value, its slot where it is held -/
def repH (σ : L2.St) (h : Option Nat) : V → DO → List Item → Prop := fun v x N => N = [.val v x.1 x.2] ∧ ∀ j, h = some j → σ[j]? = some (some v)
def tEh (K : PySem.W.Frag) (cl : Nat → Addr) (W : WX) (h : Option Nat) (f : FEnv → Ev DO) : TE := fun σ H Q => Rd1 K cl (repH σ h) W f σ H Q
theorem Post.rep {K : PySem.W.Frag} {R : Hp} {M : List Item} {σ : L2.St} {α β : Type} {rep rep' : β → α → List Item → Prop} {x : Ev α} {Q : β → Hp → Prop} (p : Post K cl rep R M W σ Q x) (h : ∀ b a N, rep' b a N → rep b a N) : Post K cl rep' R M W σ Q x := by
  cases x with
  | ok a ρ1 => exact fun b H1 N hr s1 => p b H1 N (h b a N hr) s1
  | exc x ρ1 => exact p
  | stuck => exact p
theorem seh_e (ha : PE X a (tE X.K cl W fa)) : PE X a (tEh X.K cl W none fa) := PE.of ha fun σ H Q ⟨ρ, R, M, s, p⟩ => ⟨ρ, R, M, s, p.rep fun b x N h => ⟨h, fun j z => nomatch z⟩⟩
def holdF (i : Nat) : FEnv → Ev DO := fun ρ => (match ρ[i]? with
    | some (some x) => .ok x (ρ.set i none)
    | _ => .stuck)
theorem seh_hold {i : Nat} {x : Str} (hN : X.N[i]? = some x) (hv : Vis X.env.scope x) (hd : (x == ("__debug__" : Str)) = false) (hcd : (x == ("__classdict__" : Str)) = false) : PE X (.Name x pos) (tEh X.K cl W (some i) (holdF i)) :=
  PE.of (pe_var hN hv hd hcd) fun σ H Q ⟨ρ, R, M, s, p⟩ => by
    unfold holdF at p
    cases e : ρ[i]? with
    | none => rw [e] at p; exact p.elim
    | some y =>
      cases y with
      | none => rw [e] at p; exact p.elim
      | some x =>
        rw [e] at p
        obtain ⟨v, hv, s1⟩ := s.take (d := x.1) (o := x.2) e
        exact ⟨v, hv, p v H _ ⟨rfl, fun j z => by cases z; exact hv⟩ s1⟩
theorem sa_cons {h : Option Nat} (ha : PE X a (tEh X.K cl W h fa)) (hs' : PA X es (tA X.K cl W hs fs)) (hst : starEach (a :: es) X.env = (false, eval a X.env) :: starEach es X.env) : PA X (a :: es) (tA X.K cl W (h :: hs) fun ρ => (fa ρ).bind fun x ρ1 => (fs ρ1).bind fun xs ρ2 => .ok (x :: xs) ρ2) :=
  PA.of (pa_cons ha hs' hst) fun σ H Q ⟨ρ, R, M, s, p⟩ => ⟨ρ, R, M, s, (Post.bindF [] p).mono fun v H1 ⟨x, N, ρ1, hr, s1, p1⟩ => ⟨ρ1, R, N ++ M, s1, (Post.bindF N p1).mono fun vs H2 ⟨xs, N2, ρ2, hr2, s2, p2⟩ => by
    obtain ⟨rfl, hh⟩ := hr
    obtain ⟨hl, hl2, rfl, hk⟩ := hr2
    refine p2 (v :: vs) H2 _ ⟨by rw [List.length_cons, List.length_cons, hl], by rw [List.length_cons, List.length_cons, hl2], rfl, fun p j w h1 h2 => ?_⟩ ?_
    · cases p with
      | zero =>
        have h1 : h = some j := by simpa using h1
        have h2 : v = w := by simpa using h2
        subst h2
        exact hh j h1
      | succ p => exact hk p j w (by simpa using h1) (by simpa using h2)
    · refine Sta.perm s2 ?_
      show (valsO vs xs ++ (.val v x.1 x.2 :: M)).Perm (.val v x.1 x.2 :: valsO vs xs ++ M)
      exact List.perm_middle⟩⟩
theorem se_lst (hs' : PA X es (tA X.K cl W hs fs)) : PE X (.List es pos) (tE X.K cl W fun ρ => (fs ρ).bind fun xs ρ1 => if xs.length ≤ 10000 then .ok (.lst (xs.map (·.1)), mkO (xs.map (·.2))) ρ1 else .stuck) :=
  PE.of (pe_lst hs') fun σ H Q ⟨ρ, R, M, s, p⟩ => ⟨ρ, R, M, s, (Post.bindF [] p).mono fun vs H1 ⟨xs, N, ρ1, hr, s1, p1⟩ => by
    obtain ⟨hl, _, rfl, _⟩ := hr
    obtain ⟨Le, he, g⟩ := Sta.front (N := valsO vs xs) s1
    by_cases hx : xs.length ≤ 10000
    · rw [if_pos hx] at p1
      refine ⟨by rw [sizeLine_eq]; omega, fun q hq => p1 _ _ _ rfl (Sta.ofFront (N := [.val (.ref q) (.lst (xs.map (·.1))) (mkO (xs.map (·.2)))]) he ?_)⟩
      exact (g.alloc hq).packLstO (by rw [List.length_map, hl]) (by rw [List.length_map, List.length_map])
    · rw [if_neg hx] at p1
      exact p1.elim⟩
theorem se_tup {k : Nat} (hs' : PA X es (tA X.K cl W hs fs)) : PE X (.Tuple es k pos) (tE X.K cl W fun ρ => (fs ρ).bind fun xs ρ1 => if xs.length ≤ 10000 then .ok (.tup (xs.map (·.1)), mkO (xs.map (·.2))) ρ1 else .stuck) :=
  PE.of (pe_tup hs') fun σ H Q ⟨ρ, R, M, s, p⟩ => ⟨ρ, R, M, s, (Post.bindF [] p).mono fun vs H1 ⟨xs, N, ρ1, hr, s1, p1⟩ => by
    obtain ⟨hl, _, rfl, _⟩ := hr
    obtain ⟨Le, he, g⟩ := Sta.front (N := valsO vs xs) s1
    by_cases hx : xs.length ≤ 10000
    · rw [if_pos hx] at p1
      refine ⟨by rw [sizeLine_eq]; omega, fun q hq => p1 _ _ _ rfl (Sta.ofFront (N := [.val (.ref q) (.tup (xs.map (·.1))) (mkO (xs.map (·.2)))]) he ?_)⟩
      exact (g.alloc hq).packTupO (by rw [List.length_map, hl]) (by rw [List.length_map, List.length_map])
    · rw [if_neg hx] at p1
      exact p1.elim⟩
end
end FB
namespace FB
open PySem L2 PyProof.Rows
section
variable {prog : Program} {w : World} {A : Around} {E : Value → Shared → Prop} {s : Shared}
theorem bool_idx : ∃ v, typeLookup (.type "bool") "__index__" = pure (some v) := ⟨_, rfl⟩
theorem listSub_bool {b : Bool} {Q : Option Int → Shared → Prop} (h : Q (some (b01 b)) s) : wpAny (model prog w) A (Builtin.List.listSubscript? (.bool b)) Q E s := by
  obtain ⟨v, hv⟩ := bool_idx
  unfold Builtin.List.listSubscript?
  refine wpAny_bind (wpAny_specialOf (T := "bool") (PySem.typeIs_bool s b) hv ?_)
  show wpAny _ A (asIndex (.bool b) >>= _) Q E s
  refine wpAny_bind (wpAny_of_eq (a := b01 b) (by cases b <;> rfl) ?_)
  cases b
  · exact wpAny_pure h
  · exact wpAny_pure h
theorem seqAt_of {a : Addr} {o : Obj} {items : Array Value} {n i : Nat} {Q : Option Value → Shared → Prop} (ho : s.heap.get? a = some o) (hd : o.data = .seq items n) (h : Q items[i]? s) : wpAny (model prog w) A (seqItemAt a i) Q E s := wpAny_seqItemAt ho hd h
theorem getItem_lb {l : Addr} {items : Array Value} {b : Bool} {x : Value} {Q : Value → Shared → Prop} (hl : s.heap.IsList l items) (hx : items[(b01 b).toNat]? = some x) (h : Q x s) : wpAny (model prog w) A (getItem (.ref l) (.bool b)) Q E s := by
  obtain ⟨o, ho, hc, ne, hd⟩ := id hl
  unfold getItem
  try with_reducible refine wpAny_holding ?_
  first | refine wpAny_bind (wpAny_pure ?_) | skip
  refine wpAny_bind (wpAny_sequenceKey hl.typeIs (by decide) ?_)
  refine wpAny_bind (wpAny_callSpecial?_slot (name := Str.ofString "__getitem__") hl.typeIs PySem.slot_list_getitem (wpAny_call_entry PySem.slot_list_getitem hl.typeIs PySem.entry_list_getitem ?_ (PySem.args_list_getitem _ _)))
  show wpAny _ _ (Builtin.List.listSubscript? (.bool b) >>= _) _ _ s
  refine wpAny_bind (listSub_bool ?_)
  obtain ⟨j, hj⟩ : ∃ j : Nat, b01 b = (j : Int) := ⟨(b01 b).toNat, by cases b <;> rfl⟩
  rw [hj] at hx ⊢
  have hx' : items[j]? = some x := hx
  show wpAny _ _ ((seqItemAt l j >>= fun r => pure (r.map (j, ·))) >>= _) _ _ s
  refine wpAny_bind (wpAny_bind (seqAt_of ho hd (wpAny_pure ?_)))
  rw [hx']
  first | exact wpAny_bind (wpAny_pure (wpAny_pure ⟨x, rfl, wpAny_pure h⟩)) | exact wpAny_pure ⟨x, rfl, wpAny_pure h⟩
end
section
variable {X : Cx}
def rIxB (K : PySem.W.Frag) : R2 := fun x y H Q => ∃ p xs b v, x = .ref p ∧ y = .bl b ∧ SqL K H p xs ∧ xs[(b01 b).toNat]? = some v ∧ Q v H
theorem ix_listB : IxR X (rIxB X.K) := by
  intro value slice pins s σ H x y v u Q I rx ry h hs
  obtain ⟨p, xs, b, z, rfl, rfl, hq, he, q⟩ := h
  cases rx
  cases ry
  obtain ⟨its, r, pl, hz⟩ := I.list hq
  obtain ⟨w', ew, rw'⟩ := r.get he
  have fin : EP X pins σ Q w' s := ⟨z, H, I, rw', q⟩
  exact subscriptTail_builtinR (x := w') pl.isList.typeIs PySem.slot_list_getitem.lookup (getItem_lb (Q := fun r s' => r = w' ∧ EP X pins σ Q r s') pl.isList (by simpa using ew) ⟨rfl, fin⟩) hs
end
end FB
namespace FB
open PySem L2 PyProof.Rows
section
variable {X : Cx} {cl : Nat → Addr} {W : WX} {a b c e : Expr} {fa fb fc : FEnv → Ev DO} {pos : Pos}
theorem atI_rss {K : PySem.W.Frag} {P : Hp} {vs : List V} {ds : List D} {i : Int} {d : D} (r : Rss K cl P vs ds) (h : atI ds i = some d) : ∃ v, atI vs i = some v ∧ Rs K cl P v d := by
  unfold atI at h ⊢
  rw [r.length]
  cases e : ixN ds.length i with
  | none => rw [e] at h; cases h
  | some j =>
    rw [e] at h
    exact r.get (i := j) h
/-- an item of a datum -/
def rIxD (K : PySem.W.Frag) (cl : Nat → Addr) : R2 := fun x y H Q => ∃ dx dy R M z, Good K cl R H (.val x dx .sh :: .val y dy .sh :: M) ∧ ixD dx dy = some z ∧ ∀ v, Good K cl R H (.val v z .sh :: M) → Q v H
theorem ix_D (hu : X.A.units + 64 < cLine) : IxR X (rIxD X.K cl) := by
  intro value slice pins s σ H x y v u Q I rx ry ⟨dx, dy, R, M, z, g, hz, q⟩ hs
  obtain ⟨P, ex, h1, h2⟩ := g.fact2
  cases h1 with
  | @lst p vs ds e r =>
    cases h2 with
    | int i =>
      obtain ⟨w, hw, _⟩ := atI_rss r hz
      refine ix_list value slice pins s σ H _ _ v u Q I rx ry ⟨p, vs, i, w, rfl, rfl, SqL.of (ex _ _ e), hw, q w ?_⟩ hs
      refine g.derive2 (ws := [w]) (es := [z]) fun P' ex' h1' _ => .one ?_
      cases h1' with
      | lst e' r' =>
        cases ex_eq ex' e' (ex _ _ e)
        obtain ⟨w', hw', q'⟩ := atI_rss r' hz
        rw [hw] at hw'; cases hw'
        exact q'
    | bl b =>
      have hz : ds[(b01 b).toNat]? = some z := hz
      obtain ⟨w, hw, _⟩ := r.get hz
      refine ix_listB value slice pins s σ H _ _ v u Q I rx ry ⟨p, vs, b, w, rfl, rfl, SqL.of (ex _ _ e), hw, q w ?_⟩ hs
      refine g.derive2 (ws := [w]) (es := [z]) fun P' ex' h1' _ => .one ?_
      cases h1' with
      | lst e' r' =>
        cases ex_eq ex' e' (ex _ _ e)
        obtain ⟨w', hw', q'⟩ := r'.get hz
        rw [hw] at hw'; cases hw'
        exact q'
    | _ => cases hz
  | @frz p vs ds e r =>
    cases h2 with
    | int i =>
      obtain ⟨w, hw, _⟩ := atI_rss r hz
      refine ix_list value slice pins s σ H _ _ v u Q I rx ry ⟨p, vs, i, w, rfl, rfl, ex_l ex e, hw, q w ?_⟩ hs
      refine g.derive2 (ws := [w]) (es := [z]) fun P' ex' h1' _ => .one ?_
      cases h1' with
      | frz e' r' =>
        have e1 : _ = vs := I.list_inj (ex_l ex' e') (ex_l ex e)
        subst e1
        obtain ⟨w', hw', q'⟩ := atI_rss r' hz
        rw [hw] at hw'; cases hw'
        exact q'
    | _ => cases hz
  | @tup p vs ds e r =>
    cases h2 with
    | int i =>
      obtain ⟨w, hw, _⟩ := atI_rss r hz
      refine ix_tup value slice pins s σ H _ _ v u Q I rx ry ⟨p, vs, i, w, rfl, rfl, ex_t ex e, hw, q w ?_⟩ hs
      refine g.derive2 (ws := [w]) (es := [z]) fun P' ex' h1' _ => .one ?_
      cases h1' with
      | tup e' r' =>
        have e1 : _ = vs := I.tuple_inj (ex_t ex' e') (ex_t ex e)
        subst e1
        obtain ⟨w', hw', q'⟩ := atI_rss r' hz
        rw [hw] at hw'; cases hw'
        exact q'
    | _ => cases hz
  | str t =>
    cases h2 with
    | int i =>
      simp only [ixD] at hz
      split at hz
      · rename_i hl
        rw [Option.map_eq_some_iff] at hz
        obtain ⟨c, hc, rfl⟩ := hz
        exact ix_str value slice pins s σ H _ _ v u Q I rx ry ⟨t, i, c, rfl, rfl, by rw [sizeLine_eq]; omega, hc, q _ (g.tail.tail.flat (.str _))⟩ hs
      · cases hz
    | _ => cases hz
  | @dic p ks vs ds e hl r =>
    have hz : (keyD dy).bind (dicGet ks ds) = some z := by cases dy <;> exact hz
    rw [Option.bind_eq_some_iff] at hz
    obtain ⟨k, hk, hz⟩ := hz
    have ev := keyD_kV h2 hk
    subst ev
    rcases valV_zip k hl r with ⟨w, d', q1, q2, _⟩ | ⟨_, q2⟩
    · rw [q2] at hz; cases hz
      have dg := dget_rd (k := k) (ex_rd ex e)
      rw [q1] at dg
      cases rx
      refine tail_any (dict_typeIs I dg) PySem.F.slot_dict_getitem.lookup (d_getItem (by omega) I dg ry fun w' s' I' rw' => ⟨w, H, I', rw', q w ?_⟩) hs
      refine g.derive2 (ws := [w]) (es := [z]) fun P' ex' h1' _ => .one ?_
      cases h1' with
      | @dic _ _ vs' _ e' hl' r' =>
        have ez : ks.zip vs' = ks.zip vs := by
          exact rdK_inj (ex_rd ex' e') (ex_rd ex e)
        rcases valV_zip k hl' r' with ⟨w2, d2, q5, q6, q7⟩ | ⟨_, q6⟩
        · rw [ez, q1] at q5; cases q5
          rw [q2] at q6; cases q6
          exact q7
        · rw [q2] at q6; cases q6
    · rw [q2] at hz; cases hz
  | _ => cases hz
theorem se_ix (hu : X.A.units + 64 < cLine) (ha : PE X a (tE X.K cl W fa)) (hb : PE X b (tE X.K cl W fb)) (hs : PlainIx b) :
    PE X (.Subscript a b pos) (tE X.K cl W fun ρ => (fa ρ).bind fun x ρ1 => (fb ρ1).bind fun y ρ2 => opt (ixD x.1 y.1) ρ2 fun z => .ok (z, .sh) ρ2) :=
  PE.of (pe_ix (ix_D (cl := cl) hu) ha hb hs) fun σ H Q ⟨ρ, R, M, s, p⟩ =>
    ⟨ρ, R, M, s, (Post.bindF [] p).mono fun v H1 ⟨x, N, ρ1, hr, s1, p1⟩ => ⟨ρ1, R, N ++ M, s1, (Post.bindF N p1).mono fun w H2 ⟨y, N2, ρ2, hr2, s2, p2⟩ => by
      obtain ⟨z, hz, p3⟩ := p2.opt
      subst hr
      subst hr2
      obtain ⟨Le, he, g⟩ := Sta.front (N := [.val w y.1 y.2, .val v x.1 x.2]) s2
      exact ⟨x.1, y.1, R, Le ++ M, z, sh_two g, hz, fun v' g' => p3 v' _ _ rfl (Sta.ofFront (N := [.val v' z .sh]) he g')⟩⟩⟩
/-! slices -/
theorem cut_rss {K : PySem.W.Frag} {P : Hp} {vs : List V} {ds : List D} (r : Rss K cl P vs ds) (lo hi : Option Int) : Rss K cl P (cutV vs lo hi) (cutL ds lo hi) := by
  unfold cutV cutL
  rw [r.length]
  exact (r.drop _).take _
def rSlD (K : PySem.W.Frag) (cl : Nat → Addr) : V → Option Int → Option Int → Hp → VK → Prop := fun x lo hi H Q => ∃ dx R M z, Good K cl R H (.val x dx .sh :: M) ∧ slD dx lo hi = some z ∧ ∀ v H', Good K cl R H' (.val v z.1 z.2 :: M) → Q v H'
theorem sl_D : SlR X (rSlD X.K cl) := by
  intro pins s σ H x v vl vu lo hi sl Q I rx hs pl pu ⟨dx, R, M, z, g, hz, q⟩
  obtain ⟨P, ex, h1⟩ := g.fact1
  cases h1 with
  | @lst p vs ds e r =>
    cases hz
    refine sl_list pins s σ H _ v vl vu lo hi sl Q I rx hs pl pu ⟨p, vs, rfl, SqL.of (ex _ _ e), fun p' hp => q _ _ ?_⟩
    have g2 : Good X.K cl R H (shs (cutV vs lo hi) (cutL ds lo hi) ++ M) := g.derive1 fun P' ex' h' => by
      cases h' with
      | lst e' r' =>
        cases ex_eq ex' e' (ex _ _ e)
        exact cut_rss r' lo hi
    exact (g2.alloc hp).packLst (cut_rss r lo hi).length
  | @frz p vs ds e r =>
    cases hz
    refine sl_list pins s σ H _ v vl vu lo hi sl Q I rx hs pl pu ⟨p, vs, rfl, ex_l ex e, fun p' hp => q _ _ ?_⟩
    have g2 : Good X.K cl R H (shs (cutV vs lo hi) (cutL ds lo hi) ++ M) := g.derive1 fun P' ex' h' => by
      cases h' with
      | frz e' r' =>
        have e1 : _ = vs := I.list_inj (ex_l ex' e') (ex_l ex e)
        subst e1
        exact cut_rss r' lo hi
    exact (g2.alloc hp).packLst (cut_rss r lo hi).length
  | @tup p vs ds e r =>
    cases hz
    have g2 : Good X.K cl R H (shs (cutV vs lo hi) (cutL ds lo hi) ++ M) := g.derive1 fun P' ex' h' => by
      cases h' with
      | tup e' r' =>
        have e1 : _ = vs := I.tuple_inj (ex_t ex' e') (ex_t ex e)
        subst e1
        exact cut_rss r' lo hi
    refine sl_tupA pins s σ H _ v vl vu lo hi sl Q I rx hs pl pu ⟨p, vs, rfl, ex_t ex e, fun hw => q _ _ ?_, fun _ p' hp => q _ _ ?_⟩
    · have ec : cutL ds lo hi = ds := by
        unfold cutL
        rw [← r.length, hw.1, hw.2, List.drop_zero, Nat.sub_zero, r.length, List.take_length]
      rw [ec]
      exact g
    · exact ((g2.alloc hp).packTup (cut_rss r lo hi).length).share
  | str t =>
    simp only [slD] at hz
    split at hz
    · cases hz
      exact sl_str pins s σ H _ v vl vu lo hi sl Q I rx hs pl pu ⟨t, rfl, by rw [sizeLine_eq]; omega, q _ _ (g.tail.flat (.str _))⟩
    · cases hz
  | _ => cases hz
/-- a part of a slice -/
def partF (b : Bool) (f : FEnv → Ev DO) : FEnv → Ev (Option Int) := fun ρ => if b then (f ρ).bind fun y ρ2 => (match y.1 with
    | .int i => .ok (some i) ρ2
    | _ => .stuck) else .ok none ρ
structure SO (X : Cx) (cl : Nat → Addr) (W : WX) (o : Option Expr) (f : FEnv → Ev (Option Int)) : Prop where
  run : PO X o (Rd1 X.K cl repO W f)
theorem so_none {f : FEnv → Ev DO} : SO X cl W none (partF false f) := ⟨⟨fun pins s σ H Q I ⟨ρ, R, M, s1, p⟩ => po_none.run pins s σ H Q I (p none H _ ⟨rfl, rfl⟩ s1)⟩⟩
theorem so_some (ha : PE X a (tE X.K cl W fa)) : SO X cl W (some a) (partF true fa) := ⟨⟨fun pins s σ H Q I ⟨ρ, R, M, s1, p⟩ => (po_some ha).run pins s σ H Q I ⟨ρ, R, M, s1, (Post.bindF [] p).mono fun v H1 ⟨x, N, ρ1, hr, s2, p1⟩ => by
  subst hr
  obtain ⟨Le, he, g⟩ := Sta.front (N := [.val v x.1 x.2]) s2
  obtain ⟨d, o⟩ := x
  cases d with
  | int i => exact ⟨i, int_of g, p1 (some i) H1 _ ⟨rfl, rfl⟩ (Sta.ofFront (N := []) he g.tail)⟩
  | _ => exact p1.elim⟩⟩⟩
theorem se_sl {lo hi : Option Expr} {fl fh : FEnv → Ev (Option Int)} {p2 : Pos} (ha : PE X a (tE X.K cl W fa)) (hl : SO X cl W lo fl) (hh : SO X cl W hi fh) :
    PE X (.Subscript a (.Slice lo hi none p2) pos) (tE X.K cl W fun ρ => (fa ρ).bind fun x ρ1 => (fl ρ1).bind fun l ρ2 => (fh ρ2).bind fun h ρ3 => opt (slD x.1 l h) ρ3 fun z => .ok z ρ3) :=
  PE.of (pe_slice (sl_D (cl := cl)) ha hl.run hh.run) fun σ H Q ⟨ρ, R, M, s, p⟩ =>
    ⟨ρ, R, M, s, (Post.bindF [] p).mono fun v H1 ⟨x, N, ρ1, hr, s1, p1⟩ => ⟨ρ1, R, N ++ M, s1, (Post.bindF N p1).mono fun l' H2 ⟨l, N2, ρ2, hr2, s2, p2⟩ => by
      obtain ⟨rfl, rfl⟩ := hr2
      exact ⟨ρ2, R, N ++ M, s2, (Post.bindF N p2).mono fun h' H3 ⟨h, N3, ρ3, hr3, s3, p3⟩ => by
        obtain ⟨rfl, rfl⟩ := hr3
        obtain ⟨z, hz, p4⟩ := p3.opt
        subst hr
        obtain ⟨Le, he, g⟩ := Sta.front (N := [.val v x.1 x.2]) s3
        exact ⟨x.1, R, Le ++ M, z, g.share, hz, fun v' H' g' => p4 v' _ _ rfl (Sta.ofFront (N := [.val v' z.1 z.2]) he g')⟩⟩⟩⟩
/-! attributes -/
theorem lookF_zip {K : PySem.W.Frag} {P : Hp} : ∀ {ks : List Str} {vs : List V} {ds : List D} {f : Str} {d : D}, ks.length = vs.length → Rss K cl P vs ds → lookF ks ds f = some d → ∃ v, (ks.zip vs).lookup f = some v ∧ Rs K cl P v d
  | [], [], _, _, _, _, .nil, e => by simp [lookF] at e
  | k :: ks, v :: vs, d :: ds, f, d', hl, .cons h r, e => by
    simp only [lookF] at e
    rw [List.zip_cons_cons, List.lookup_cons]
    by_cases hf : f = k
    · rw [if_pos hf] at e
      cases e
      exact ⟨v, by rw [hf]; simp, h⟩
    · rw [if_neg hf] at e
      obtain ⟨w, h1, h2⟩ := lookF_zip (Nat.succ.inj hl) r e
      refine ⟨w, ?_, h2⟩
      have hb : (f == k) = false := beq_eq_false_iff_ne.mpr hf
      rw [hb]
      exact h1
/-- what is known of the classes of the text: those of data -/
structure ClsOk (K : PySem.W.Frag) (cl : Nat → Addr) (attrs : List (Nat × Str)) : Prop where
  cls : ∀ c f, (c, f) ∈ attrs → Cls K (cl c)
  no : ∀ c f, (c, f) ∈ attrs → NoAttr K (cl c) f
end
end FB
namespace FB
open PySem PySem.Spec L2 PyProof.Rows
/-! ### room: one frame a call of a def, two where an object is made -/
structure Rm (k : Nat) (A : Around) : Prop where
  hd : A.handled = none
  dp : A.depth + k + 5 < recursionLimit
  un : A.units + 5 * k + 200 < cLine
variable {A : Around} {j k : Nat}
theorem Rm.mono (r : Rm k A) (h : j ≤ k) : Rm j A := ⟨r.hd, by have := r.dp; omega, by have := r.un; omega⟩
theorem Rm.down (r : Rm (k + 1) A) (env : Env) : Rm k (A.deeper env) := by
  refine ⟨r.hd, ?_, ?_⟩
  · have h1 := r.dp
    show A.depth + 1 + k + 5 < recursionLimit
    omega
  · have h2 := r.un
    show A.units + 3 + 5 * k + 200 < cLine
    omega
theorem Rm.made (r : Rm (k + 1) A) (C : Addr) (us : List Value) : Rm k (A.under (.builtin "type.__call__" ⟨.ref C :: us, []⟩)) := by
  have h1 := r.dp
  have h2 := r.un
  exact ⟨r.hd, by rw [make_depth]; omega, by rw [make_units]; omega⟩
theorem Rm.depth (r : Rm k A) : A.depth < recursionLimit := by
  have h := r.dp
  omega
theorem Rm.units (r : Rm k A) : A.units + 64 < cLine := by
  have h := r.un
  omega
theorem Rm.of (r : Room j A) (h : k ≤ 3 * j) : Rm k A := by
  have h1 := r.dp
  have h2 := r.un
  exact ⟨r.hd, by omega, by omega⟩
/-- a def keeps a promise where there is that much room -/
structure FnR (P : Program) (w : World) (K : PySem.W.Frag) (mg : Str → Option Value) (base : Heap) (CX : CXT) (k : Nat) (f : Addr) (fd : FuncData) (ps : List Str) (sp : Sp) : Prop where
  len : ∀ vs H Q E, sp vs H Q E → vs.length = ps.length
  run : ∀ (A : Around) (outer : List Env) (s : Shared) (H : Hp) (args : Args) (us : List Value) (vs : List V) (Q : VK) (E : XK),
    Rm k A → Env0 P w K mg base A outer s H → BindsTo s fd args (ps.zip us) → Vals vs us → sp vs H Q E → codeAny (model P w) A (.call (.ref f) args) (CR CX outer P w H s Q E) s
variable {P : Program} {w : World} {K : PySem.W.Frag} {mg : Str → Option Value} {base : Heap} {CX : CXT} {f : Addr} {fd : FuncData} {ps : List Str} {sp sp' : Sp}
theorem FnR.toOk (F : FnR P w K mg base CX k f fd ps sp) (h : k ≤ 3 * j) : FnOk P w K mg base CX j f fd ps sp := by
  refine ⟨F.len, ?_⟩
  intro A outer s H args us vs Q E hr
  exact F.run A outer s H args us vs Q E (Rm.of hr h)
theorem FnR.imp (F : FnR P w K mg base CX k f fd ps sp) (h : ∀ vs H Q E, sp' vs H Q E → sp vs H Q E) : FnR P w K mg base CX k f fd ps sp' := by
  refine ⟨fun vs H Q E q => F.len vs H Q E (h vs H Q E q), ?_⟩
  intro A outer s H args us vs Q E hr e0 hb hv q
  exact F.run A outer s H args us vs Q E hr e0 hb hv (h vs H Q E q)
/-- the callee runs from a body -/
theorem run_fnR {X : Cx} {dvs : List V} {ds : List Value} {E : L2.St → XK} {pins : List (Addr × Obj)} {σ : L2.St} {H : Hp} {s : Shared} {Q : VK} {us : List Value} {vs : List V} (F : FnR X.prog X.w X.K X.mg X.base CX k f fd ps sp) (hr : Rm k X.A)
    (hb : Binds X.K fd ps ds) (hd : Vals dvs ds) (hx : PassesAt CX X σ (E σ)) (I : Inv X pins σ H s) (r : Vals vs us) (h : sp (vs ++ dvs) H Q (E σ)) : wpAny (model X.prog X.w) X.A (PySem.call (.ref f) us) (EP X pins σ Q) X.xe s := by
  have all : Vals (vs ++ dvs) (us ++ ds) := r.append hd
  have few : (us ++ ds).length = ps.length := all.length.symm.trans (F.len _ _ _ _ h)
  have go := F.run X.A X.stack s H ⟨us, []⟩ (us ++ ds) (vs ++ dvs) Q (E σ) hr I.env0 (hb s us I.kIn few) all h
  refine wpAny_call (codeAny_mono go ?_)
  intro q s' hq
  match q, hq with
  | .error e, hq => exact hx pins H s e s' I hq
  | .ok (.ret u), hq => exact I.after hq
  | .ok .next, hq => exact hq.elim
  | .ok .brk, hq => exact hq.elim
  | .ok .cont, hq => exact hq.elim
/-- a def of the text, by its body -/
theorem fn_of0 {name qual : Str} {params : Arguments} {body : List Stmt} {scope : Scope} {dV kV doc pm cdv ct oc : Value} {an od : Option Addr} {osl : Array (Option Value)} {N : List Str}
    (lk : K.lookup f = some ⟨oc, od, .func (PySem.W.fnOf name qual params body scope dV kV doc pm an cdv ct), osl⟩) (hcd : PySem.W.codeIn K cdv qual = true) (S : FnScope N ps scope) (len : ∀ vs H Q E, sp vs H Q E → vs.length = ps.length)
    (hbody : ∀ (A : Around) (outer : List Env) (s : Shared) (H : Hp) (vs : List V) (Q : VK) (E : XK), Rm k A → sp vs H Q E →
      ∃ t, PSs (cxOf CX P w K mg base N qual scope f cdv A outer s H E) body t ∧ t { nx := fun _ H' => Q .non H', rt := Q } (L2.start N vs) H) :
    FnR P w K mg base CX k f (PySem.W.fnOf name qual params body scope dV kV doc pm an cdv ct) ps sp := by
  refine ⟨len, ?_⟩
  intro A outer s H args us vs Q E hr e0 hb r hsp
  have old : ∀ b o, base.get? b = some o → s.heap.get? b = some o := fun b o e => (e0.bs b o e).1
  have KX : K.In s.heap := e0.mod.kin.keeps old
  have lim : s.heap.NoLimit := e0.mod.nolimit.keeps old
  have place : ∀ y ∈ ps.zip us, scope.names.lookup y.1 = some .local ∨ (scope.names.lookup y.1 = some .cell ∧ ((cellsFrom (s.heap.objs.size + 1) scope.names []).lookup y.1).isSome = true) := by
    rintro ⟨n, v⟩ hy
    rcases S.par n (List.of_mem_zip hy).1 with q | q
    · exact .inl q
    · exact .inr ⟨q, PySem.W.cellsFrom_some _ _ _ (.inl q)⟩
  refine codeAny_call_function hr.depth (KX _ _ lk) rfl S.co S.gen rfl (PySem.W.codeRec_of KX hcd) (hb _ _ _ _ ?_)
  refine wpAny_newFunctionEnv_cells S.kind place fun env he s1 x => ?_
  subst he
  refine ⟨lim.keeps x.toInCall.keep, codeAny_func ?_⟩
  obtain ⟨t, ht, hq⟩ := hbody A outer s H vs Q E hr hsp
  have I : Inv (cxOf CX P w K mg base N qual scope f cdv A outer s H E) [] (L2.start N vs) H s1 := inv_start S hr.hd e0 (len _ _ _ _ hsp) r x
  refine wpAny_mono (ht.run [] s1 (L2.start N vs) H _ I hq) ?_ fun e s' hs => hs
  intro fl s' hs
  match fl, hs with
  | .ret u, hs =>
    obtain ⟨v, σ', H', J, rv, q⟩ := hs
    exact ⟨v, H', J.os, J.bare, J.base, J.hok, rv, q⟩
  | .next, hs =>
    obtain ⟨σ', H', J, q⟩ := hs
    exact ⟨V.non, H', J.os, J.bare, J.base, J.hok, rfl, q⟩
  | .brk, hs =>
    obtain ⟨_, _, _, q⟩ := hs
    exact q.elim
  | .cont, hs =>
    obtain ⟨_, _, _, q⟩ := hs
    exact q.elim
/-- .. which has room of one frame less -/
theorem fn_ofR {name qual : Str} {params : Arguments} {body : List Stmt} {scope : Scope} {dV kV doc pm cdv ct oc : Value} {an od : Option Addr} {osl : Array (Option Value)} {N : List Str}
    (lk : K.lookup f = some ⟨oc, od, .func (PySem.W.fnOf name qual params body scope dV kV doc pm an cdv ct), osl⟩) (hcd : PySem.W.codeIn K cdv qual = true) (S : FnScope N ps scope) (len : ∀ vs H Q E, sp vs H Q E → vs.length = ps.length)
    (hbody : ∀ (A : Around) (outer : List Env) (s : Shared) (H : Hp) (vs : List V) (Q : VK) (E : XK), Rm k (A.deeper (envOfC qual scope s.heap.objs.size f cdv)) → sp vs H Q E →
      ∃ t, PSs (cxOf CX P w K mg base N qual scope f cdv A outer s H E) body t ∧ t { nx := fun _ H' => Q .non H', rt := Q } (L2.start N vs) H) :
    FnR P w K mg base CX (k + 1) f (PySem.W.fnOf name qual params body scope dV kV doc pm an cdv ct) ps sp :=
  fn_of0 lk hcd S len fun A outer s H vs Q E hr hsp => hbody A outer s H vs Q E (hr.down _) hsp
end FB
namespace FB
open PySem L2 PyProof.Rows
section
variable {X : Cx} {cl : Nat → Addr} {W : WX} {a b c e o : Expr} {fa fb fc : FEnv → Ev DO} {pos : Pos}
/-! attributes -/
def AttOk (K : PySem.W.Frag) (cl : Nat → Addr) (att : Nat → Str → Bool) : Prop := ∀ c f, att c f = true → Cls K (cl c) ∧ NoAttr K (cl c) f
theorem se_fld {f : Str} {att : Nat → Str → Bool} (ok : AttOk X.K cl att) (ha : PE X a (tE X.K cl W fa)) (hb : attributeBase a f X.env (eval a X.env) = eval a X.env) :
    PE X (.Attribute a f pos) (tE X.K cl W fun ρ => (fa ρ).bind fun x ρ1 => (match x.1 with
    | .obj c fs ds => if att c f then opt (lookF fs ds f) ρ1 fun z => .ok (z, .sh) ρ1 else .stuck
    | _ => .stuck)) :=
  PE.of (pe_fld ha hb) fun σ H Q ⟨ρ, R, M, s, p⟩ => ⟨ρ, R, M, s, (Post.bindF [] p).mono fun v H1 ⟨x, N, ρ1, hr, s1, p1⟩ => by
    subst hr
    obtain ⟨Le, he, g⟩ := Sta.front (N := [.val v x.1 x.2]) s1
    obtain ⟨d, o⟩ := x
    cases d with
    | obj c fs ds =>
      have p1 : Post X.K cl repV R M W σ Q (if att c f then opt (lookF fs ds f) ρ1 fun z => .ok (z, .sh) ρ1 else .stuck) := p1
      by_cases hc : att c f = true
      · rw [if_pos hc] at p1
        obtain ⟨z, hz, p2⟩ := p1.opt
        obtain ⟨h1, h2⟩ := ok c f hc
        have g : Good X.K cl R H1 (.val v (.obj c fs ds) .sh :: (Le ++ M)) := g.share
        obtain ⟨P, ex, h3⟩ := g.fact1
        cases h3 with
        | @obj a dx _ _ vs _ q hl r =>
          obtain ⟨w, hw, _⟩ := lookF_zip hl r hz
          refine ⟨a, cl c, dx, fs.zip vs, w, rfl, ex _ _ q, h1, h2, hw, p2 w H1 _ rfl (Sta.ofFront (N := [.val w z .sh]) he ?_)⟩
          refine g.derive1 (ws := [w]) (es := [z]) fun P' ex' h' => .one ?_
          cases h' with
          | @obj _ dx' _ _ vs' _ q' hl' r' =>
            have e1 := ex_eq ex' q' (ex _ _ q)
            obtain ⟨w', hw', q2⟩ := lookF_zip hl' r' hz
            injection e1 with _ _ e2
            rw [e2, hw] at hw'
            cases hw'
            exact q2
      · rw [if_neg hc] at p1
        exact p1.elim
    | _ => exact p1.elim⟩

/-! ### calls of the text's defs -/
/-- the held arguments, as they are behind the call -/
def ioI (vs : List V) : List Nat → List DO → List Item
  | j :: js, x :: xs => (match vs[j]? with
    | some v => [.val v x.1 x.2]
    | none => []) ++ ioI vs js xs
  | _, _ => []
/-- the promise that a def does what its semantics say -/
def spF (K : PySem.W.Frag) (cl : Nat → Addr) (np : Nat) (io : List Nat) (g : List DO → Rt) : Sp := fun vs H Q E =>
  ∃ R M xs, vs.length = np ∧ vs.length = xs.length ∧ Good K cl R H (valsO vs xs ++ M) ∧ (match g xs with
    | .ok d o ds => ds.length = io.length ∧ ∀ v H', Good K cl R H' (.val v d o :: (ioI vs io ds ++ M)) → Q v H'
    | .exc x ds => ds.length = io.length ∧ ∀ H' dx, Good K cl R H' (ioI vs io ds ++ M) → XOk H' x dx → E (.ref (cl x.c)) dx H'
    | .stuck => False)
def constV : Const → V
  | .bool b => .bl b
  | .int i => .int i
  | .str s => .str s
  | _ => .non
/-- what is known of a def that may be called -/
structure FnI (X : Cx) (cl : Nat → Addr) (n : Nat) (a : Addr) (np : Nat) (io : List Nat) (g : List DO → Rt) (df : List Const) : Prop where
  ex : ∃ (fd : FuncData) (ps : List Str), FnR X.prog X.w X.K X.mg X.base (L2.CX X.prog X.w) n a fd ps (spF X.K cl np io g) ∧ ∃ ds, Vals (df.map constV) ds ∧ Binds X.K fd ps ds
  gnp : ∀ xs, g xs ≠ .stuck → xs.length = np
  ionp : ∀ j ∈ io, j < np
  dfc : ∀ c ∈ df, (constD c).isSome = true
theorem dflt_vals {K : PySem.W.Frag} {R H : Hp} : ∀ {df : List Const} {L : List Item}, (∀ c ∈ df, (constD c).isSome = true) → Good K cl R H L → Good K cl R H (valsO (df.map constV) (dflt df) ++ L)
  | [], L, _, g => g
  | c :: df, L, h, g => by
    have ih := dflt_vals (df := df) (fun x hx => h x (List.mem_cons_of_mem _ hx)) g
    have hc := h c List.mem_cons_self
    show Good K cl R H (.val (constV c) ((constD c).getD .non) .sh :: _)
    refine ih.flat ?_
    cases c with
    | none => exact .non
    | bool b => exact .bl b
    | int i => exact .int i
    | str s => exact .str s
    | _ => cases hc
theorem valsO_append : ∀ {vs ws : List V} {xs ys : List DO}, vs.length = xs.length → valsO (vs ++ ws) (xs ++ ys) = valsO vs xs ++ valsO ws ys
  | [], ws, [], ys, _ => rfl
  | v :: vs, ws, x :: xs, ys, h => by
    show Item.val v x.1 x.2 :: valsO (vs ++ ws) (xs ++ ys) = Item.val v x.1 x.2 :: (valsO vs xs ++ valsO ws ys)
    rw [valsO_append (Nat.succ.inj h)]
theorem back_sta {K : PySem.W.Frag} {σ : L2.St} {R H : Hp} {M : List Item} {hs : List (Option Nat)} {vs : List V} (hk : HoldOk σ hs vs) : ∀ {io : List Nat} {bk : List (Option Nat)} {ds : List DO} {ρ ρ' : FEnv}, bkOk hs io bk = true → backIo bk ds ρ = some ρ' →
    (∀ j ∈ io, j < vs.length) → Sta K cl σ H R ρ (ioI vs io ds ++ M) → Sta K cl σ H R ρ' M
  | [], [], [], ρ, ρ', _, e, _, s => by simp [backIo] at e; subst e; exact s
  | j :: io, none :: bk, x :: ds, ρ, ρ', hb, e, hj, s => by
    simp only [backIo] at e
    refine back_sta hk (io := io) hb e (fun i hi => hj i (List.mem_cons_of_mem _ hi)) ?_
    unfold ioI at s
    rw [List.append_assoc] at s
    exact s.dropL
  | j :: io, some i :: bk, x :: ds, ρ, ρ', hb, e, hj, s => by
    simp only [backIo] at e
    simp only [bkOk, Bool.and_eq_true, beq_iff_eq] at hb
    split at e
    · rename_i e0
      have hjl := hj j List.mem_cons_self
      have hv : vs[j]? = some vs[j] := List.getElem?_eq_getElem hjl
      have hσ := hk j i _ hb.1 hv
      refine back_sta hk (io := io) hb.2 e (fun i hi => hj i (List.mem_cons_of_mem _ hi)) ?_
      unfold ioI at s
      rw [hv] at s
      exact Sta.give (d := x.1) (o := x.2) s e0 hσ
    · cases e
  | [], [], _ :: _, _, _, _, e, _, _ => by simp [backIo] at e
  | [], _ :: _, _, _, _, hb, _, _, _ => nomatch hb
  | _ :: _, [], _, _, _, hb, _, _, _ => nomatch hb
  | _ :: _, none :: _, [], _, _, _, e, _, _ => by simp [backIo] at e
  | _ :: _, some _ :: _, [], _, _, _, e, _, _ => by simp [backIo] at e
/-- what a call's promise asks, out of what its semantics say -/
theorem sp_of {np : Nat} {io : List Nat} {g : List DO → Rt} {σ : L2.St} {H : Hp} {Q : VK} {ρ : FEnv} {R : Hp} {M : List Item} {vs : List V} {xs : List DO} {hs bk : List (Option Nat)} {df : List Const} {K : PySem.W.Frag}
    (hl : vs.length = xs.length) (hl2 : vs.length = hs.length) (hk : HoldOk σ hs vs) (s : Sta K cl σ H R ρ (valsO vs xs ++ M)) (p : Post K cl repV R M W σ Q (ofRt bk ρ (g (xs ++ dflt df)))) (gnp : ∀ xs, g xs ≠ .stuck → xs.length = np) (hb : bkOk hs io bk = true)
    (hio : ∀ j ∈ io, j < np) (hdf : ∀ c ∈ df, (constD c).isSome = true) : spF K cl np io g (vs ++ df.map constV) H Q (WE W σ) := by
  obtain ⟨Le, he, gd⟩ := Sta.front (N := valsO vs xs) s
  have g2 : Good K cl R H (valsO (vs ++ df.map constV) (xs ++ dflt df) ++ (Le ++ M)) := by
    rw [valsO_append hl]
    have q : Good K cl R H (valsO (df.map constV) (dflt df) ++ (valsO vs xs ++ (Le ++ M))) := dflt_vals (df := df) hdf gd
    refine q.perm ?_
    generalize valsO (df.map constV) (dflt df) = A
    generalize valsO vs xs = B
    generalize Le ++ M = C
    rw [← List.append_assoc]
    exact List.perm_append_comm.append_right C
  have hlen : (vs ++ df.map constV).length = (xs ++ dflt df).length := by
    unfold dflt
    rw [List.length_append, List.length_append, List.length_map, List.length_map, hl]
  have hnp : (vs ++ df.map constV).length = np := by
    rw [hlen]
    refine gnp _ fun z => ?_
    rw [z] at p
    exact p
  have hio2 : ∀ j ∈ io, j < (vs ++ df.map constV).length := fun j hj => by rw [hnp]; exact hio j hj
  have hk2 : HoldOk σ hs (vs ++ df.map constV) := fun q j v h1 h2 => by
    have hq : q < vs.length := by
      rw [hl2]
      exact (List.getElem?_eq_some_iff.mp h1).1
    rw [List.getElem?_append_left hq] at h2
    exact hk q j v h1 h2
  refine ⟨R, Le ++ M, xs ++ dflt df, hnp, hlen, g2, ?_⟩
  have lens : ∀ {io : List Nat} {bk : List (Option Nat)} {ds : List DO} {ρ ρ' : FEnv}, bkOk hs io bk = true → backIo bk ds ρ = some ρ' → ds.length = io.length := by
    intro io
    induction io with
    | nil => intro bk ds ρ ρ' h1 h2; cases bk with
      | nil => cases ds with
        | nil => rfl
        | cons _ _ => simp [backIo] at h2
      | cons _ _ => exact nomatch h1
    | cons j io ih => intro bk ds ρ ρ' h1 h2; cases bk with
      | nil => exact nomatch h1
      | cons x bk => cases ds with
        | nil => cases x <;> simp [backIo] at h2
        | cons y ds =>
          cases x with
          | none => rw [List.length_cons, List.length_cons, ih h1 h2]
          | some i =>
            simp only [backIo] at h2
            simp only [bkOk, Bool.and_eq_true] at h1
            split at h2
            · rw [List.length_cons, List.length_cons, ih h1.2 h2]
            · cases h2
  cases eg : g (xs ++ dflt df) with
  | ok d o ds =>
    rw [eg] at p
    simp only [ofRt] at p
    cases eb : backIo bk ds ρ with
    | none => rw [eb] at p; exact p.elim
    | some ρ' =>
      rw [eb] at p
      refine ⟨lens hb eb, fun v H' g' => p v H' _ rfl ?_⟩
      have s3 : Sta K cl σ H' R ρ ((ioI (vs ++ df.map constV) io ds) ++ ([.val v d o] ++ M)) := by
        refine Sta.perm (M := [.val v d o] ++ (ioI (vs ++ df.map constV) io ds ++ M)) ?_ ?_
        · have : Good K cl R H' ([.val v d o] ++ (Le ++ (ioI (vs ++ df.map constV) io ds ++ M))) := by
            refine Good.perm (L := .val v d o :: (ioI (vs ++ df.map constV) io ds ++ (Le ++ M))) g' ?_
            refine List.Perm.cons _ ?_
            rw [← List.append_assoc, ← List.append_assoc]
            exact List.perm_append_comm.append_right _
          exact Sta.ofFront (N := [.val v d o]) he this
        · rw [← List.append_assoc, ← List.append_assoc]
          exact List.perm_append_comm.append_right _
      exact back_sta hk2 hb eb hio2 s3
  | exc x ds =>
    rw [eg] at p
    simp only [ofRt] at p
    cases eb : backIo bk ds ρ with
    | none => rw [eb] at p; exact p.elim
    | some ρ' =>
      rw [eb] at p
      refine ⟨lens hb eb, fun H' dx g' xo => p H' dx ?_ xo⟩
      have s3 : Sta K cl σ H' R ρ ((ioI (vs ++ df.map constV) io ds) ++ M) := Sta.ofFront (N := ioI (vs ++ df.map constV) io ds) he g'
      exact back_sta hk2 hb eb hio2 s3
  | stuck => rw [eg] at p; exact p.elim
variable {fs : FEnv → Ev (List DO)} {es : List Expr} {hs bk : List (Option Nat)} {x m : Str} {p' apos : Pos}
/-- f(e, ..) -/
theorem se_call {n : Nat} {f : Addr} {np : Nat} {io : List Nat} {g : List DO → Rt} {df : List Const} (F : FnI X cl n f np io g df) (hr : Rm n X.A) (tk : Takes X W) (hg : Gl X x) (hm : X.mg x = some (.ref f)) (hk : PySem.W.keepIn X.K (.ref f) = true)
    (ha : PA X (e :: es) (tA X.K cl W hs fs)) (hdb : (x == ("__debug__" : Str)) = false) (hst : starEach (e :: es) X.env = (false, eval e X.env) :: starEach es X.env) (hpl : (backTo pos (starEach es X.env)).any (·.1) = false) (hb : bkOk hs io bk = true) :
    PE X (.Call (.Name x p') (e :: es) [] pos) (tE X.K cl W fun ρ => (fs ρ).bind fun xs ρ1 => ofRt bk ρ1 (g (xs ++ dflt df))) := by
  obtain ⟨fd, ps, ok, ds, hd, hbd⟩ := F.ex
  refine ⟨fun pins s σ H Q I ⟨ρ, R, M, s0, p⟩ => ?_⟩
  refine wpAny_Call_Name_kw (ld_glob I hg hm ?_ hdb)
  refine PySem.W.callWith_K (h₀ := X.base) I.ok.mod.kin hk (thn (ha.run pos pins s σ H (fun vs H1 => spF X.K cl np io g (vs ++ df.map constV) H1 Q (WE W σ)) I ?_) fun us s1 ⟨vs, H1, I1, r, q⟩ => ⟨I1.kIn, run_fnR (E := WE W) ok hr hbd hd (passAt tk σ) I1 r q⟩) hst hpl
  exact ⟨ρ, R, M, s0, (Post.bindF [] p).mono fun vs H1 ⟨xs, N, ρ1, ⟨hl, hl2, hN, hk2⟩, s1, p1⟩ => by
    subst hN
    exact sp_of hl hl2 hk2 s1 p1 F.gnp hb F.ionp F.dfc⟩
theorem se_call0 {n : Nat} {f : Addr} {np : Nat} {io : List Nat} {g : List DO → Rt} {df : List Const} (F : FnI X cl n f np io g df) (hr : Rm n X.A) (tk : Takes X W) (hg : Gl X x) (hm : X.mg x = some (.ref f)) (hk : PySem.W.keepIn X.K (.ref f) = true)
    (hdb : (x == ("__debug__" : Str)) = false) (hb : bkOk [] io bk = true) :
    PE X (.Call (.Name x p') [] [] pos) (tE X.K cl W fun ρ => (Ev.ok [] ρ).bind fun xs ρ1 => ofRt bk ρ1 (g (xs ++ dflt df))) := by
  obtain ⟨fd, ps, ok, ds, hd, hbd⟩ := F.ex
  refine ⟨fun pins s σ H Q I ⟨ρ, R, M, s0, p⟩ => ?_⟩
  refine wpAny_Call_Name_kw (ld_glob I hg hm ?_ hdb)
  refine PySem.W.callWith_K0 I.kIn hk (run_fnR (us := []) (vs := []) (E := WE W) ok hr hbd hd (passAt tk σ) I .nil ?_)
  exact sp_of (vs := []) (xs := []) (hs := []) rfl rfl (fun p j v h => by simp at h) s0 p F.gnp hb F.ionp F.dfc
/-! C.m(e, ..): a def read off a class of the text -/
structure CAttr (K : PySem.W.Frag) (C : Addr) (m : Str) (f : Addr) : Prop where
  ga : PySem.W.specialIn K (.ref C) "__getattribute__" = some (some (.builtin "type.__getattribute__"))
  rd : ∃ mc, PySem.W.readsIn K C mc = true ∧ PySem.W.findCls K (.ref C) mc m = some (.val (.ref f))
  hd : PySem.W.handedIn (.ref f) = true
theorem se_cattr {n : Nat} {C f : Addr} {np : Nat} {io : List Nat} {g : List DO → Rt} {df : List Const} {pl : Sem Bool} (F : FnI X cl n f np io g df) (hr : Rm n X.A) (tk : Takes X W) (hg : Gl X x) (hm : X.mg x = some (.ref C)) (hc : CAttr X.K C m f) (hk : PySem.W.keepIn X.K (.ref f) = true)
    (ha : PA X (e :: es) (tA X.K cl W hs fs)) (hdb : (x == ("__debug__" : Str)) = false) (hst : starEach (e :: es) X.env = (false, eval e X.env) :: starEach es X.env) (hpl : (backTo pos (starEach es X.env)).any (·.1) = false) (hb : bkOk hs io bk = true)
    (ht : eval (.Call (.Attribute (.Name x p') m apos) (e :: es) [] pos) X.env = (do
      let ov ← eval (.Name x p') X.env
      standAt apos.atName
      let (f, first) ← holding [ov] (getMethod ov m pl)
      callWith pos f first (backTo pos (starEach (e :: es) X.env)) (backToKw pos (keywordEach [] X.env)))) :
    PE X (.Call (.Attribute (.Name x p') m apos) (e :: es) [] pos) (tE X.K cl W fun ρ => (fs ρ).bind fun xs ρ1 => ofRt bk ρ1 (g (xs ++ dflt df))) := by
  obtain ⟨fd, ps, ok, ds, hd, hbd⟩ := F.ex
  refine ⟨fun pins s σ H Q I ⟨ρ, R, M, s0, p⟩ => ?_⟩
  refine PySem.W.methodCall_KW (ld_glob I hg hm ?_ hdb) ht
  obtain ⟨mc, h1, h2⟩ := hc.rd
  refine PySem.W.method_cls I.kIn hc.ga (PySem.W.cls_value I.kIn h1 h2 hc.hd ?_)
  have I1 := I.tok (s.toks + 1)
  refine PySem.W.callWith_K (first := []) (h₀ := X.base) I.ok.mod.kin hk (thn (ha.run pos pins _ σ H (fun vs H1 => spF X.K cl np io g (vs ++ df.map constV) H1 Q (WE W σ)) I1 ?_) fun us s2 ⟨vs, H2, I2, r, q2⟩ => ⟨I2.kIn, ?_⟩) hst hpl
  · exact ⟨ρ, R, M, s0, (Post.bindF [] p).mono fun vs H1 ⟨xs, N, ρ1, ⟨hl, hl2, hN, hk2⟩, s1, p1⟩ => by
      subst hN
      exact sp_of hl hl2 hk2 s1 p1 F.gnp hb F.ionp F.dfc⟩
  · exact run_fnR (E := WE W) ok hr hbd hd (passAt tk σ) I2 r q2
/-! o.m(e, ..) -/
/-- the methods that an object of the class c has -/
structure MthI (X : Cx) (cl : Nat → Addr) (n : Nat) (mth : Nat → Str → Option Nat) (fn : Nat → List DO → Rt) (iof : Nat → List Nat) (m : Str) (df : List Const) : Prop where
  ok : ∀ c f, mth c m = some f → Cls X.K (cl c) ∧ ∃ a np, Meth X.K (cl c) m a ∧ FnI X cl n a np (iof f) (fn f) df
theorem zip_no {α : Type} : ∀ {ks : List Str} {vs : List α} {m : Str}, ks.contains m = false → (ks.zip vs).lookup m = none
  | [], _, _, _ => by simp
  | _ :: _, [], _, _ => by simp
  | k :: ks, v :: vs, m, h => by
    rw [List.contains_cons, Bool.or_eq_false_iff] at h
    rw [List.zip_cons_cons, List.lookup_cons, h.1]
    exact zip_no h.2
theorem obj_at {K : PySem.W.Frag} {R H : Hp} {M : List Item} {v : V} {o : O} {c : Nat} {fs : List Str} {ds : List D} (g : Good K cl R H (.val v (.obj c fs ds) o :: M)) : ∃ a dx vs, v = .ref a ∧ H a = some (.ins (cl c) dx (fs.zip vs)) ∧ fs.length = vs.length := by
  obtain ⟨P, ex, h⟩ := g.share.fact1
  cases h with
  | obj q hl r => exact ⟨_, _, _, rfl, ex _ _ q, hl⟩
theorem Post.ite {K : PySem.W.Frag} {R : Hp} {M : List Item} {σ : L2.St} {α β : Type} {rep : β → α → List Item → Prop} {Q : β → Hp → Prop} {b : Bool} {x : Ev α} (p : Post K cl rep R M W σ Q (if b then x else .stuck)) : b = true ∧ Post K cl rep R M W σ Q x := by
  cases b with
  | true => exact ⟨rfl, p⟩
  | false => exact p.elim
theorem Post.itn {K : PySem.W.Frag} {R : Hp} {M : List Item} {σ : L2.St} {α β : Type} {rep : β → α → List Item → Prop} {Q : β → Hp → Prop} {b : Bool} {x : Ev α} (p : Post K cl rep R M W σ Q (if b then .stuck else x)) : b = false ∧ Post K cl rep R M W σ Q x := by
  cases b with
  | false => exact ⟨rfl, p⟩
  | true => exact p.elim
/-- the call of a found method with its arguments -/
theorem meth_run {pins : List (Addr × Obj)} {s : Shared} {σ : L2.St} {H : Hp} {Q : VK} {a f : Addr} {n np : Nat} {io : List Nat} {g : List DO → Rt} {df : List Const} (F : FnI X cl n f np io g df) (hr : Rm n X.A) (tk : Takes X W) (hk : PySem.W.keepIn X.K (.ref f) = true) (I : Inv X pins σ H s)
    (ha : PA X es (tA X.K cl W hs fs)) (hst : ∀ e es', es = e :: es' → starEach (e :: es') X.env = (false, eval e X.env) :: starEach es' X.env ∧ (backTo pos (starEach es' X.env)).any (·.1) = false)
    (h0 : es = [] → hs = [] ∧ fs = fun ρ => .ok [] ρ) (h : tA X.K cl W hs fs σ H (fun vs H1 => spF X.K cl np io g ((.ref a :: vs) ++ df.map constV) H1 Q (WE W σ))) :
    wpAny (model X.prog X.w) X.A (callWith pos (.ref f) [.ref a] (backTo pos (starEach es X.env)) (backToKw pos (keywordEach [] X.env))) (EP X pins σ Q) X.xe s := by
  obtain ⟨fd, ps, ok, ds, hd, hbd⟩ := F.ex
  cases es with
  | cons e es' =>
    obtain ⟨h1, h2⟩ := hst e es' rfl
    refine PySem.W.callWith_K (first := [.ref a]) (h₀ := X.base) I.ok.mod.kin hk (thn (ha.run pos pins s σ H _ I h) fun us s2 ⟨vs, H2, I2, r, q2⟩ => ⟨I2.kIn, ?_⟩) h1 h2
    exact run_fnR (us := .ref a :: us) (vs := .ref a :: vs) (E := WE W) ok hr hbd hd (passAt tk σ) I2 (.cons rfl r) q2
  | nil =>
    obtain ⟨e1, e2⟩ := h0 rfl
    subst e1
    subst e2
    obtain ⟨ρ, R, M, s0, p⟩ := h
    have z := p [] H _ ⟨rfl, rfl, rfl, fun p j v h => by simp at h⟩ s0
    refine PySem.W.callWith_K0 (first := [.ref a]) I.kIn hk ?_
    exact run_fnR (us := [.ref a]) (vs := [.ref a]) (E := WE W) ok hr hbd hd (passAt tk σ) I (.cons rfl .nil) z
/-- .. of an object that stays shared -/
theorem se_mth {n : Nat} {mth : Nat → Str → Option Nat} {fn : Nat → List DO → Rt} {iof : Nat → List Nat} {df : List Const} {pl : Sem Bool} (MI : MthI X cl n mth fn iof m df) (hr : Rm n X.A) (tk : Takes X W) (ho : PE X o (tE X.K cl W fa))
    (ha : PA X es (tA X.K cl W hs fs)) (hst : ∀ e es', es = e :: es' → starEach (e :: es') X.env = (false, eval e X.env) :: starEach es' X.env ∧ (backTo pos (starEach es' X.env)).any (·.1) = false) (h0 : es = [] → hs = [] ∧ fs = fun ρ => .ok [] ρ)
    (ht : eval (.Call (.Attribute o m apos) es [] pos) X.env = (do
      let ov ← eval o X.env
      standAt apos.atName
      let (f, first) ← holding [ov] (getMethod ov m pl)
      callWith pos f first (backTo pos (starEach es X.env)) (backToKw pos (keywordEach [] X.env)))) :
    PE X (.Call (.Attribute o m apos) es [] pos) (tE X.K cl W fun ρ => (fa ρ).bind fun x ρ1 => (match x.1 with
    | .obj c fs' _ => if fs'.contains m then .stuck else opt (mth c m) ρ1 fun f => if bkOk (none :: hs) (iof f) bk then (fs ρ1).bind fun xs ρ2 => ofRt bk ρ2 (fn f (x :: (xs ++ dflt df))) else .stuck
    | _ => .stuck)) := by
  refine ⟨fun pins s σ H Q I ⟨ρ, R, M, s0, p⟩ => ?_⟩
  refine PySem.W.methodCall_KW (pl := pl) (thn (ho.run pins s σ H (fun v H1 => ∃ c fs' ds od f ρ1, fs'.contains m = false ∧ mth c m = some f ∧ bkOk (none :: hs) (iof f) bk = true ∧ Sta X.K cl σ H1 R ρ1 (.val v (.obj c fs' ds) od :: M) ∧
    Post X.K cl repV R M W σ Q ((fs ρ1).bind fun xs ρ2 => ofRt bk ρ2 (fn f ((.obj c fs' ds, od) :: (xs ++ dflt df))))) I ⟨ρ, R, M, s0, (Post.bindF [] p).mono fun v H1 ⟨x, N, ρ1, hr1, s1, p1⟩ => ?_⟩) fun u s1 ⟨v, H1, I1, rv, c, fs', ds, od, f, ρ1, h1, h2, h3, s2, p1⟩ => ?_) ht
  · subst hr1
    obtain ⟨d, od⟩ := x
    cases d with
    | obj c fs' ds =>
      have p1 : Post X.K cl repV R M W σ Q (if fs'.contains m then .stuck else opt (mth c m) ρ1 fun f => if bkOk (none :: hs) (iof f) bk then (fs ρ1).bind fun xs ρ2 => ofRt bk ρ2 (fn f ((.obj c fs' ds, od) :: (xs ++ dflt df))) else .stuck) := p1
      obtain ⟨hc, p2⟩ := p1.itn
      obtain ⟨f, hf, p3⟩ := p2.opt
      obtain ⟨hb, p4⟩ := p3.ite
      exact ⟨c, fs', ds, od, f, ρ1, hc, hf, hb, s1, p4⟩
    | _ => exact p1.elim
  · obtain ⟨Le, he, g⟩ := Sta.front (N := [.val v (.obj c fs' ds) od]) s2
    obtain ⟨a, dx, vs0, rfl, ea, hl0⟩ := obj_at g
    obtain rfl : u = Value.ref a := rv
    obtain ⟨hcl, fa', np, hm, F⟩ := MI.ok c f h2
    refine getmeth_ok I1 ea hcl hm (zip_no h1) ?_
    refine meth_run F hr tk hm.kp I1 ha hst h0 ⟨ρ1, R, .val (.ref a) (.obj c fs' ds) od :: M, s2, (Post.bindF [.val (.ref a) (.obj c fs' ds) od] p1).mono fun vs H2 ⟨xs, N2, ρ2, ⟨hl, hl2, hN, hk⟩, s3, p2⟩ => ?_⟩
    subst hN
    exact sp_of (vs := .ref a :: vs) (xs := (.obj c fs' ds, od) :: xs) (hs := none :: hs) (by rw [List.length_cons, List.length_cons, hl]) (by rw [List.length_cons, List.length_cons, hl2]) (fun q j v q1 q2 => by
      cases q with
      | zero => simp at q1
      | succ q => exact hk q j v (by simpa using q1) (by simpa using q2)) (Sta.perm s3 (by exact List.perm_middle)) p2 F.gnp h3 F.ionp F.dfc
/-- .. of an object that a slot holds -/
theorem se_mthI {n i : Nat} {mth : Nat → Str → Option Nat} {fn : Nat → List DO → Rt} {iof : Nat → List Nat} {df : List Const} {pl : Sem Bool} (MI : MthI X cl n mth fn iof m df) (hr : Rm n X.A) (tk : Takes X W)
    (hN : X.N[i]? = some x) (hv : Vis X.env.scope x) (hd : (x == ("__debug__" : Str)) = false) (hcd : (x == ("__classdict__" : Str)) = false)
    (ha : PA X es (tA X.K cl W hs fs)) (hst : ∀ e es', es = e :: es' → starEach (e :: es') X.env = (false, eval e X.env) :: starEach es' X.env ∧ (backTo pos (starEach es' X.env)).any (·.1) = false) (h0 : es = [] → hs = [] ∧ fs = fun ρ => .ok [] ρ)
    (ht : eval (.Call (.Attribute (.Name x p') m apos) es [] pos) X.env = (do
      let ov ← eval (.Name x p') X.env
      standAt apos.atName
      let (f, first) ← holding [ov] (getMethod ov m pl)
      callWith pos f first (backTo pos (starEach es X.env)) (backToKw pos (keywordEach [] X.env)))) :
    PE X (.Call (.Attribute (.Name x p') m apos) es [] pos) (tE X.K cl W fun ρ => (match ρ[i]? with
    | some (some (.obj c fs' _, _)) => if fs'.contains m then .stuck else opt (mth c m) ρ fun f => if bkOk (some i :: hs) (iof f) (some i :: bk) then
        (fs ρ).bind fun xs ρ1 => (match ρ1[i]? with
          | some (some x) => ofRt (some i :: bk) (ρ1.set i none) (fn f (x :: (xs ++ dflt df)))
          | _ => .stuck) else .stuck
    | _ => .stuck)) := by
  refine ⟨fun pins s σ H Q I ⟨ρ, R, M, s0, p⟩ => ?_⟩
  dsimp only at p
  split at p
  · rename_i c fs' ds od e0
    obtain ⟨hc, p2⟩ := p.itn
    obtain ⟨f, hf, p3⟩ := p2.opt
    obtain ⟨hb, p4⟩ := p3.ite
    obtain ⟨v, hσ, s1⟩ := s0.take e0
    have hi : i < ρ.length := (List.getElem?_eq_some_iff.mp e0).1
    refine PySem.W.methodCall_KW (pl := pl) (thn ((pe_var hN hv hd hcd).run pins s σ H (fun v' H1 => v' = v ∧ H1 = H) I ⟨v, hσ, rfl, rfl⟩) fun u s1' ⟨v', H1, I1, rv, ev, eH⟩ => ?_) ht
    subst ev
    subst eH
    obtain ⟨Le, he, g⟩ := Sta.front (N := [.val v' (.obj c fs' ds) od]) s1
    obtain ⟨a, dx, vs0, rfl, ea, hl0⟩ := obj_at g
    obtain rfl : u = Value.ref a := rv
    obtain ⟨hcl, fa', np, hm, F⟩ := MI.ok c f hf
    refine getmeth_ok I1 ea hcl hm (zip_no hc) ?_
    refine meth_run F hr tk hm.kp I1 ha hst h0 ⟨ρ, R, M, s0, (Post.bindF [] p4).mono fun vs H2 ⟨xs, N2, ρ2, ⟨hl, hl2, hN2, hk⟩, s3, p5⟩ => ?_⟩
    subst hN2
    split at p5
    · rename_i x' e2
      obtain ⟨v2, hσ2, s4⟩ := s3.take (d := x'.1) (o := x'.2) e2
      have ev2 : v2 = .ref a := by
        rw [hσ] at hσ2
        exact (Option.some.inj (Option.some.inj hσ2)).symm
      subst ev2
      exact sp_of (vs := .ref a :: vs) (xs := x' :: xs) (hs := some i :: hs) (by rw [List.length_cons, List.length_cons, hl]) (by rw [List.length_cons, List.length_cons, hl2]) (fun q j v q1 q2 => by
        cases q with
        | zero =>
          simp at q1 q2
          subst q1
          subst q2
          exact hσ
        | succ q => exact hk q j v (by simpa using q1) (by simpa using q2)) s4 p5 F.gnp hb F.ionp F.dfc
    · exact p5.elim
  · exact p.elim
/-! C(e, ..) -/
theorem run_makeS {CX : CXT} {k : Nat} {f C : Addr} {fd : FuncData} {ps : List Str} {sp : Sp} {dvs : List V} {ds : List Value} {E : XK} {pins : List (Addr × Obj)} {σ : L2.St} {H : Hp} {s : Shared} {Q : VK} {us : List Value} {vs : List V} (M : Mk X.K C f) (F : FnR X.prog X.w X.K X.mg X.base CX k f fd ps sp) (hr : Rm (k + 1) X.A) (hb : Binds X.K fd ps ds) (hd : Vals dvs ds)
    (hx : PassesAt CX X σ E) (I : Inv X pins σ H s) (r : Vals vs us)
    (h : ∀ x dx, H x = none → H dx = none → dx ≠ x → sp (.ref x :: (vs ++ dvs)) (upd (upd H dx (.own x)) x (.ins C dx [])) (fun v H2 => v = .non ∧ Q (.ref x) H2) E) :
    wpAny (model X.prog X.w) X.A (PySem.call (.ref C) us) (EP X pins σ Q) X.xe s := by
  have hq := h (s.heap.objs.size + 1) s.heap.objs.size (I.hok.fresh (Nat.le_succ _)) (I.hok.fresh (Nat.le_refl _)) (Nat.ne_of_lt (Nat.lt_succ_self _))
  have I2 := Inv.made (C := C) I
  have r2 : Vals (V.ref (s.heap.objs.size + 1) :: (vs ++ dvs)) (Value.ref (s.heap.objs.size + 1) :: (us ++ ds)) := .cons rfl (r.append hd)
  have hl : (Value.ref (s.heap.objs.size + 1) :: us ++ ds).length = ps.length := by
    have e := r2.length
    rw [F.len _ _ _ _ hq] at e
    exact e.symm
  refine wpAny_call (make_map (f := f) I.kIn M.makes M.init (beq_iff_eq.mp M.fn) (codeAny_mono (F.run _ X.stack _ _ ⟨Value.ref (s.heap.objs.size + 1) :: us, []⟩ (Value.ref (s.heap.objs.size + 1) :: (us ++ ds)) _ _ E (hr.made C us)
    (I2.env0.make C us []) (hb _ (Value.ref (s.heap.objs.size + 1) :: us) I2.kIn hl) r2 hq) fun r s' hq' => ?_))
  cases r with
  | error e => exact hx pins _ _ e s' I2 hq'
  | ok fl =>
    cases fl with
    | ret u =>
      obtain ⟨v, H', I3, rv, ev, q3⟩ := I2.after hq'
      subst ev
      exact ⟨rv, ⟨V.ref (s.heap.objs.size + 1), H', I3, rfl, q3⟩⟩
    | next => exact False.elim hq'
    | brk => exact False.elim hq'
    | cont => exact False.elim hq'
/-- what making an object by its class comes to; g: its __init__ -/
def makSem (c : Nat) (g : List DO → Rt) (xs : List DO) : Rt := match g ((.obj c [] [], .root) :: xs) with
  | .ok .non _ [(d, o)] => .ok d o []
  | .exc x [_] => .exc x []
  | _ => .stuck
structure MkI (X : Cx) (cl : Nat → Addr) (n : Nat) (c : Nat) (m : List DO → Rt) (df : List Const) : Prop where
  ex : ∃ (f : Addr) (k np : Nat) (io : List Nat) (g : List DO → Rt), Mk X.K (cl c) f ∧ FnI X cl k f np io g df ∧ k + 1 ≤ n ∧ m = makSem c g ∧ io = [0]
theorem Good.packObj {K : PySem.W.Frag} {R H : Hp} {M : List Item} {a dx : Addr} {c : Nat} {fs : List Str} {vs : List V} {ds : List D} (g : Good K cl R H (.cell a (.ins (cl c) dx (fs.zip vs)) :: (shs vs ds ++ M))) (hl : vs.length = ds.length) (hk : fs.length = vs.length) : Good K cl R H (.val (.ref a) (.obj c fs ds) .root :: M) := by
  obtain ⟨P, f, r1, r2, c, n, e⟩ := g
  cases e with
  | cell h _ r =>
    obtain ⟨f1, f2, rfl, e1, e2⟩ := r.split
    obtain ⟨rfl, q⟩ := Its.toRss hl e1
    exact ⟨P, _, r1, r2, c, n, .val (f := [a]) (.objR h hk q) e2⟩
theorem mk_of {c : Nat} {m : List DO → Rt} {df : List Const} {n : Nat} {pins : List (Addr × Obj)} {s : Shared} {σ : L2.St} {H R : Hp} {M : List Item} {Q : VK} {us : List Value} {vs : List V} {xs : List DO} {ρ : FEnv} (MI : MkI X cl n c m df) (hr : Rm n X.A) (tk : Takes X W) (I : Inv X pins σ H s) (r : Vals vs us)
    (hl : vs.length = xs.length) (s0 : Sta X.K cl σ H R ρ (valsO vs xs ++ M)) (p : Post X.K cl repV R M W σ Q (ofRt [] ρ (m (xs ++ dflt df)))) : wpAny (model X.prog X.w) X.A (PySem.call (.ref (cl c)) us) (EP X pins σ Q) X.xe s := by
  obtain ⟨f, k, np, io, g, hM, F, hk, rfl, rfl⟩ := MI.ex
  obtain ⟨fd, ps, ok, ds, hd, hbd⟩ := F.ex
  refine run_makeS hM ok (hr.mono hk) hbd hd (passAt tk σ) I r fun x dx nx ndx hne => ?_
  obtain ⟨Le, he, gd⟩ := Sta.front (N := valsO vs xs) s0
  have g1 : Good X.K cl R (upd H dx (.own x)) (valsO vs xs ++ (Le ++ M)) := gd.heap (Ex.new ndx)
  have nx1 : upd H dx (.own x) x = none := by rw [upd_ne (Ne.symm hne)]; exact nx
  have g2 : Good X.K cl R (upd (upd H dx (.own x)) x (.ins (cl c) dx [])) (.val (.ref x) (.obj c [] []) .root :: (valsO vs xs ++ (Le ++ M))) := Good.packObj (fs := []) (vs := []) (ds := []) (g1.alloc nx1) rfl rfl
  generalize upd (upd H dx (.own x)) x (.ins (cl c) dx []) = H2 at g2 ⊢
  have g3 : Good X.K cl R H2 (valsO ((.ref x :: vs) ++ df.map constV) (((.obj c [] [], .root) :: xs) ++ dflt df) ++ (Le ++ M)) := by
    rw [valsO_append (by rw [List.length_cons, List.length_cons, hl])]
    have q : Good X.K cl R H2 (valsO (df.map constV) (dflt df) ++ (valsO (.ref x :: vs) ((.obj c [] [], .root) :: xs) ++ (Le ++ M))) := dflt_vals (df := df) F.dfc g2
    refine q.perm ?_
    generalize valsO (df.map constV) (dflt df) = A
    generalize valsO (.ref x :: vs) ((.obj c [] [], .root) :: xs) = B
    generalize Le ++ M = C
    rw [← List.append_assoc]
    exact List.perm_append_comm.append_right C
  have hlen : ((V.ref x :: vs) ++ df.map constV).length = ((((D.obj c [] [], O.root) : DO) :: xs) ++ dflt df).length := by
    unfold dflt
    rw [List.length_append, List.length_append, List.length_map, List.length_map, List.length_cons, List.length_cons, hl]
  have hnp : ((V.ref x :: vs) ++ df.map constV).length = np := by
    rw [hlen]
    refine F.gnp _ fun z => ?_
    simp only [makSem, ← List.cons_append, z] at p
    exact p
  refine ⟨R, Le ++ M, ((.obj c [] [], .root) :: xs) ++ dflt df, hnp, hlen, g3, ?_⟩
  simp only [makSem, ← List.cons_append] at p
  cases eg : g (((.obj c [] [], .root) :: xs) ++ dflt df) with
  | ok d o io =>
    rw [eg] at p
    cases d with
    | non =>
      match io, p with
      | [(d', o')], p =>
        refine ⟨rfl, fun v H' g' => ?_⟩
        have hv : v = .non := by
          obtain ⟨P, ex, h⟩ := g'.share.fact1
          cases h
          rfl
        refine ⟨hv, p (.ref x) H' _ rfl ?_⟩
        exact Sta.ofFront (N := [.val (.ref x) d' o']) he g'.tail
      | [], p => exact p.elim
      | _ :: _ :: _, p => exact p.elim
    | _ => cases io with
      | nil => exact p.elim
      | cons y io => cases io <;> exact p.elim
  | exc x' io =>
    rw [eg] at p
    match io, p with
    | [y], p => exact ⟨rfl, fun H' dx' g' xo => p H' dx' (Sta.ofFront (N := []) he (g'.tailA)) xo⟩
    | [], p => exact p.elim
    | _ :: _ :: _, p => exact p.elim
  | stuck => rw [eg] at p; exact p.elim
theorem se_mk {c n : Nat} {m : List DO → Rt} {df : List Const} (MI : MkI X cl n c m df) (hr : Rm n X.A) (tk : Takes X W) (hg : Gl X x) (hm : X.mg x = some (.ref (cl c))) (hk : PySem.W.keepIn X.K (.ref (cl c)) = true)
    (ha : PA X (e :: es) (tA X.K cl W hs fs)) (hdb : (x == ("__debug__" : Str)) = false) (hst : starEach (e :: es) X.env = (false, eval e X.env) :: starEach es X.env) (hpl : (backTo pos (starEach es X.env)).any (·.1) = false) :
    PE X (.Call (.Name x p') (e :: es) [] pos) (tE X.K cl W fun ρ => (fs ρ).bind fun xs ρ1 => ofRt [] ρ1 (m (xs ++ dflt df))) := by
  refine ⟨fun pins s σ H Q I ⟨ρ, R, M, s0, p⟩ => ?_⟩
  refine wpAny_Call_Name_kw (ld_glob I hg hm ?_ hdb)
  refine PySem.W.callWith_K (h₀ := X.base) I.ok.mod.kin hk (thn (ha.run pos pins s σ H (fun vs H1 => ∃ xs ρ1, vs.length = xs.length ∧ Sta X.K cl σ H1 R ρ1 (valsO vs xs ++ M) ∧ Post X.K cl repV R M W σ Q (ofRt [] ρ1 (m (xs ++ dflt df)))) I ?_) fun us s1 ⟨vs, H1, I1, r, xs, ρ1, hl, s2, p1⟩ => ⟨I1.kIn, mk_of MI hr tk I1 r hl s2 p1⟩) hst hpl
  exact ⟨ρ, R, M, s0, (Post.bindF [] p).mono fun vs H1 ⟨xs, N, ρ1, ⟨hl, hl2, hN, hk2⟩, s1, p1⟩ => ⟨xs, ρ1, hl, by subst hN; exact s1, p1⟩⟩
theorem se_mk0 {c n : Nat} {m : List DO → Rt} {df : List Const} (MI : MkI X cl n c m df) (hr : Rm n X.A) (tk : Takes X W) (hg : Gl X x) (hm : X.mg x = some (.ref (cl c))) (hk : PySem.W.keepIn X.K (.ref (cl c)) = true)
    (hdb : (x == ("__debug__" : Str)) = false) :
    PE X (.Call (.Name x p') [] [] pos) (tE X.K cl W fun ρ => (Ev.ok [] ρ).bind fun xs ρ1 => ofRt [] ρ1 (m (xs ++ dflt df))) := by
  refine ⟨fun pins s σ H Q I ⟨ρ, R, M, s0, p⟩ => ?_⟩
  refine wpAny_Call_Name_kw (ld_glob I hg hm ?_ hdb)
  exact PySem.W.callWith_K0 I.kIn hk (mk_of (us := []) (vs := []) (xs := []) MI hr tk I .nil rfl s0 p)
end
end FB
namespace FB
open PySem L2 PyProof.Rows
section
variable {X : Cx} {cl : Nat → Addr} {W : WX} {a b c e o : Expr} {fa fb fc : FEnv → Ev DO} {pos : Pos}
theorem Good.shareMany {K : PySem.W.Frag} {R H : Hp} : ∀ {vs : List V} {xs : List DO} {M : List Item}, vs.length = xs.length → Good K cl R H (valsO vs xs ++ M) → Good K cl R H (shs vs (xs.map (·.1)) ++ M)
  | [], [], M, _, g => g
  | v :: vs, x :: xs, M, hl, g => by
    have g1 : Good K cl R H (.val v x.1 .sh :: (valsO vs xs ++ M)) := Good.share g
    have g2 : Good K cl R H (valsO vs xs ++ (.val v x.1 .sh :: M)) := g1.perm List.perm_middle.symm
    exact (Good.shareMany (Nat.succ.inj hl) g2).perm List.perm_middle
theorem inv_len {ds : List D} {z : DO} (h : biD .len ds = some z) : (∃ xs, ds = [.lst xs] ∧ z = (.int xs.length, .sh)) ∨ (∃ xs, ds = [.tup xs] ∧ z = (.int xs.length, .sh)) ∨ (∃ xs, ds = [.frz xs] ∧ z = (.int xs.length, .sh)) ∨ (∃ ks xs, ds = [.dic ks xs] ∧ z = (.int ks.length, .sh)) ∨ (∃ s, ds = [.str s] ∧ s.length ≤ 16000000 ∧ z = (.int s.length, .sh)) := by
  unfold biD at h
  split at h <;> simp_all
theorem inv_list {ds : List D} {z : DO} (h : biD .list ds = some z) : (∃ xs, ds = [.lst xs] ∧ z = (.lst xs, .root)) ∨ (∃ xs, ds = [.tup xs] ∧ z = (.lst xs, .root)) ∨ (∃ xs, ds = [.frz xs] ∧ z = (.lst xs, .root)) := by
  unfold biD at h
  split at h <;> simp_all
theorem inv_tuple {ds : List D} {z : DO} (h : biD .tuple ds = some z) : (∃ xs, ds = [.lst xs] ∧ z = (.tup xs, .sh)) ∨ (∃ xs, ds = [.tup xs] ∧ z = (.tup xs, .sh)) := by
  unfold biD at h
  split at h <;> simp_all
theorem inv_dict {ds : List D} {z : DO} (h : biD .dict ds = some z) : (∃ ks xs, ds = [.dic ks xs] ∧ z = (.dic ks xs, .root)) := by
  unfold biD at h
  split at h <;> simp_all
  exact ⟨_, _, ⟨rfl, rfl⟩, h.symm⟩
theorem inv_int {ds : List D} {z : DO} (h : biD .int ds = some z) : (∃ i, ds = [.int i] ∧ z = (.int i, .sh)) ∨ (∃ k, ds = [.bl k] ∧ z = (.int (if k then 1 else 0), .sh)) := by
  unfold biD at h
  split at h <;> simp_all
theorem inv_str {ds : List D} {z : DO} (h : biD .str ds = some z) : (∃ i, ds = [.int i] ∧ i.natAbs.log2 < 1920 ∧ z = (.str (toString i), .sh)) := by
  unfold biD at h
  split at h <;> simp_all
theorem inv_max {ds : List D} {z : DO} (h : biD .max ds = some z) : (∃ i j, ds = [.int i, .int j] ∧ z = (.int (if j > i then j else i), .sh)) ∨ (∃ xs ns m, ds = [.lst xs] ∧ allInt xs = some ns ∧ maxI ns = some m ∧ z = (.int m, .sh)) := by
  unfold biD at h
  split at h <;> first | (simp at *; done) | skip
  · cases h
    exact .inl ⟨_, _, rfl, rfl⟩
  · rename_i xs _
    cases e1 : allInt xs with
    | none => rw [e1] at h; cases h
    | some ns =>
      cases e2 : maxI ns with
      | none => rw [e1] at h; simp [e2] at h
      | some m =>
        rw [e1] at h
        simp [e2] at h
        exact .inr ⟨xs, ns, m, rfl, e1, e2, h.symm⟩
theorem foldl_max : ∀ (is : List Int) (i : Int), (is.foldl (fun a b => if b > a then b else a) i ∈ i :: is) ∧ ∀ y ∈ i :: is, y ≤ is.foldl (fun a b => if b > a then b else a) i
  | [], i => ⟨List.mem_cons_self, fun y hy => by rw [List.mem_singleton.mp hy]; exact Int.le_refl _⟩
  | j :: is, i => by
    have ih := foldl_max is (if j > i then j else i)
    rw [List.foldl_cons]
    refine ⟨?_, fun y hy => ?_⟩
    · rcases List.mem_cons.mp ih.1 with h | h
      · rw [h]
        split
        · exact List.mem_cons_of_mem _ List.mem_cons_self
        · exact List.mem_cons_self
      · exact List.mem_cons_of_mem _ (List.mem_cons_of_mem _ h)
    · have h0 := ih.2 _ List.mem_cons_self
      rcases List.mem_cons.mp hy with rfl | hy
      · refine Int.le_trans ?_ h0
        split <;> omega
      · rcases List.mem_cons.mp hy with rfl | hy
        · refine Int.le_trans ?_ h0
          split <;> omega
        · exact ih.2 y (List.mem_cons_of_mem _ hy)
theorem maxI_spec {ns : List Int} {m : Int} (h : maxI ns = some m) : 0 < ns.length ∧ m ∈ ns ∧ ∀ y ∈ ns, y ≤ m := by
  cases ns with
  | nil => cases h
  | cons i is =>
    cases h
    exact ⟨Nat.succ_pos _, foldl_max is i⟩
theorem inv_min {ds : List D} {z : DO} (h : biD .min ds = some z) : (∃ i j, ds = [.int i, .int j] ∧ z = (.int (if j < i then j else i), .sh)) := by
  unfold biD at h
  split at h <;> simp_all
  exact ⟨_, _, ⟨rfl, rfl⟩, h.symm⟩
theorem inv_sum {ds : List D} {z : DO} (h : biD .sum ds = some z) : (∃ xs ns, ds = [.lst xs] ∧ allInt xs = some ns ∧ z = (.int ns.sum, .sh)) := by
  unfold biD at h
  split at h <;> simp_all
  obtain ⟨a, h1, h2⟩ := h
  exact ⟨a, h1, h2.symm⟩
theorem inv_all {ds : List D} {z : DO} (h : biD .all ds = some z) : (∃ xs ns, ds = [.lst xs] ∧ allTru xs = some ns ∧ z = (.bl (ns.all id), .sh)) := by
  unfold biD at h
  split at h <;> simp_all
  obtain ⟨a, h1, h2⟩ := h
  exact ⟨a, h1, h2.symm⟩
theorem inv_any {ds : List D} {z : DO} (h : biD .any ds = some z) : (∃ xs ns, ds = [.lst xs] ∧ allTru xs = some ns ∧ z = (.bl (ns.any id), .sh)) := by
  unfold biD at h
  split at h <;> simp_all
  obtain ⟨a, h1, h2⟩ := h
  exact ⟨a, h1, h2.symm⟩
/-- a call of a built-in by data -/
def rBi (K : PySem.W.Frag) (cl : Nat → Addr) (f : List D → Option DO) : List V → Hp → VK → Prop := fun vs H Q => ∃ ds R M z, vs.length = ds.length ∧ Good K cl R H (shs vs ds ++ M) ∧ f ds = some z ∧ ∀ v H', Good K cl R H' (.val v z.1 z.2 :: M) → Q v H'
theorem bi_len : CallR X (.builtin "len") (rBi X.K cl (biD .len)) := by
  intro pins s σ H vs us Q I r ⟨ds, R, M, z, hl, g, hz, q⟩
  have go : ∀ {v : V} {d : D} {n : Nat}, vs = [v] → ds = [d] → z = (.int n, .sh) → (∀ P, Ex P H → Rs X.K cl P v d → LenV X.K v H n) → wpAny (model X.prog X.w) X.A (PySem.call (.builtin "len") us) (EP X pins σ Q) X.xe s := by
    intro v d n e1 e2 e3 h
    subst e1; subst e2; subst e3
    obtain ⟨P, ex, h1⟩ := Good.fact1 g
    exact call_len pins s σ H _ us Q I r ⟨v, n, rfl, h P ex h1, q _ _ ((Good.tail g).flat (.int _))⟩
  rcases inv_len hz with ⟨xs, rfl, rfl⟩ | ⟨xs, rfl, rfl⟩ | ⟨xs, rfl, rfl⟩ | ⟨ks, xs, rfl, rfl⟩ | ⟨t, rfl, hle, rfl⟩
  all_goals obtain ⟨v, rfl⟩ : ∃ v, vs = [v] := by match vs, hl with | [v], _ => exact ⟨v, rfl⟩
  · exact go rfl rfl rfl fun P ex h => by cases h with | lst e r => exact .inl ⟨_, SqL.of (ex _ _ e), r.length.symm⟩
  · exact go rfl rfl rfl fun P ex h => by cases h with | tup e r => exact .inr ⟨_, ex_t ex e, r.length.symm⟩
  · exact go rfl rfl rfl fun P ex h => by cases h with | frz e r => exact .inl ⟨_, ex_l ex e, r.length.symm⟩
  · clear go
    obtain ⟨P, ex, h1⟩ := Good.fact1 g
    cases h1 with
    | @dic a _ vs' _ e hk r0 =>
      obtain ⟨u, rfl, ru⟩ := vals1 r
      cases ru
      refine d_len I (ex_rd ex e) fun t s' I' => ?_
      have el : (ks.zip vs').length = ks.length := by rw [List.length_zip, ← hk, Nat.min_self]
      rw [el]
      exact ⟨.int ks.length, H, I', ⟨_, rfl⟩, q _ _ ((Good.tail g).flat (.int _))⟩
  · exact go rfl rfl rfl fun P ex h => by cases h; exact ⟨by rw [sizeLine_eq]; omega, rfl⟩
theorem bi_list : CallR X (.type "list") (rBi X.K cl (biD .list)) := by
  intro pins s σ H vs us Q I r ⟨ds, R, M, z, hl, g, hz, q⟩
  rcases inv_list hz with ⟨xs, rfl, rfl⟩ | ⟨xs, rfl, rfl⟩ | ⟨xs, rfl, rfl⟩
  all_goals obtain ⟨v, rfl⟩ : ∃ v, vs = [v] := by match vs, hl with | [v], _ => exact ⟨v, rfl⟩
  ·
    obtain ⟨P, ex, h1⟩ := Good.fact1 g
    cases h1 with
    | @lst a vs' _ e r0 =>
      refine call_list_of pins s σ H _ us Q I r ⟨a, vs', rfl, .inl (SqL.of (ex _ _ e)), fun p hp => q _ _ ?_⟩
      have g2 : Good X.K cl R H (shs vs' xs ++ M) := Good.derive1 g fun P' ex' h' => by
        cases h' with
        | lst e' r' =>
          cases ex_eq ex' e' (ex _ _ e)
          exact r'
      exact (g2.alloc hp).packLst r0.length
  ·
    obtain ⟨P, ex, h1⟩ := Good.fact1 g
    cases h1 with
    | @tup a vs' _ e r0 =>
      refine call_list_of pins s σ H _ us Q I r ⟨a, vs', rfl, .inr (ex_t ex e), fun p hp => q _ _ ?_⟩
      have g2 : Good X.K cl R H (shs vs' xs ++ M) := Good.derive1 g fun P' ex' h' => by
        cases h' with
        | tup e' r' =>
          have e1 : _ = vs' := I.tuple_inj (ex_t ex' e') (ex_t ex e)
          subst e1
          exact r'
      exact (g2.alloc hp).packLst r0.length
  ·
    obtain ⟨P, ex, h1⟩ := Good.fact1 g
    cases h1 with
    | @frz a vs' _ e r0 =>
      refine call_list_of pins s σ H _ us Q I r ⟨a, vs', rfl, .inl (ex_l ex e), fun p hp => q _ _ ?_⟩
      have g2 : Good X.K cl R H (shs vs' xs ++ M) := Good.derive1 g fun P' ex' h' => by
        cases h' with
        | frz e' r' =>
          have e1 : _ = vs' := I.list_inj (ex_l ex' e') (ex_l ex e)
          subst e1
          exact r'
      exact (g2.alloc hp).packLst r0.length
theorem bi_tuple : CallR X (.type "tuple") (rBi X.K cl (biD .tuple)) := by
  intro pins s σ H vs us Q I r ⟨ds, R, M, z, hl, g, hz, q⟩
  rcases inv_tuple hz with ⟨xs, rfl, rfl⟩ | ⟨xs, rfl, rfl⟩
  all_goals obtain ⟨v, rfl⟩ : ∃ v, vs = [v] := by match vs, hl with | [v], _ => exact ⟨v, rfl⟩
  ·
    obtain ⟨P, ex, h1⟩ := Good.fact1 g
    cases h1 with
    | @lst a vs' _ e r0 =>
      refine call_tuple_of pins s σ H _ us Q I r ⟨a, vs', rfl, .inl ⟨SqL.of (ex _ _ e), fun p hp => q _ _ ?_⟩⟩
      have g2 : Good X.K cl R H (shs vs' xs ++ M) := Good.derive1 g fun P' ex' h' => by
        cases h' with
        | lst e' r' =>
          cases ex_eq ex' e' (ex _ _ e)
          exact r'
      exact ((g2.alloc hp).packTup r0.length).share
  ·
    obtain ⟨P, ex, h1⟩ := Good.fact1 g
    cases h1 with
    | @tup a vs' _ e r0 => exact call_tuple_of pins s σ H _ us Q I r ⟨a, vs', rfl, .inr ⟨ex_t ex e, q _ _ g⟩⟩
theorem bi_dict : CallR X (.type "dict") (rBi X.K cl (biD .dict)) := by
  intro pins s σ H vs us Q I r ⟨ds, R, M, z, hl, g, hz, q⟩
  rcases inv_dict hz with ⟨ks, xs, rfl, rfl⟩
  all_goals obtain ⟨v, rfl⟩ : ∃ v, vs = [v] := by match vs, hl with | [v], _ => exact ⟨v, rfl⟩
  ·
    obtain ⟨P, ex, h1⟩ := Good.fact1 g
    cases h1 with
    | @dic a _ vs' _ e hk r0 =>
      obtain ⟨u, rfl, ru⟩ := vals1 r
      cases ru
      refine d_copyOf I (ex_rd ex e) fun p s' hp I' => ⟨.ref p, _, I', rfl, q _ _ ?_⟩
      have g2 : Good X.K cl R H (shs vs' xs ++ M) := Good.derive1 g fun P' ex' h' => by
        cases h' with
        | @dic _ _ vs2 _ e' hk' r' =>
          have ez : ks.zip vs2 = ks.zip vs' := by
            exact rdK_inj (ex_rd ex' e') (ex_rd ex e)
          have e2 : vs2 = vs' := by
            have h1 := congrArg (List.map Prod.snd) ez
            rw [List.map_snd_zip (Nat.le_of_eq hk'.symm), List.map_snd_zip (Nat.le_of_eq hk.symm)] at h1
            exact h1
          subst e2
          exact r'
      exact (g2.alloc hp).packDic r0.length hk
theorem bi_int : CallR X (.type "int") (rBi X.K cl (biD .int)) := by
  intro pins s σ H vs us Q I r ⟨ds, R, M, z, hl, g, hz, q⟩
  rcases inv_int hz with ⟨i, rfl, rfl⟩ | ⟨k, rfl, rfl⟩
  all_goals obtain ⟨v, rfl⟩ : ∃ v, vs = [v] := by match vs, hl with | [v], _ => exact ⟨v, rfl⟩
  ·
    obtain ⟨P, ex, h1⟩ := Good.fact1 g
    cases h1
    exact call_int1 pins s σ H _ us Q I r (.inl ⟨i, rfl, q _ _ g⟩)
  ·
    obtain ⟨P, ex, h1⟩ := Good.fact1 g
    cases h1
    exact call_int1 pins s σ H _ us Q I r (.inr ⟨k, rfl, q _ _ ((Good.tail g).flat (.int _))⟩)
theorem bi_str : CallR X (.type "str") (rBi X.K cl (biD .str)) := by
  intro pins s σ H vs us Q I r ⟨ds, R, M, z, hl, g, hz, q⟩
  rcases inv_str hz with ⟨i, rfl, hlog, rfl⟩
  all_goals obtain ⟨v, rfl⟩ : ∃ v, vs = [v] := by match vs, hl with | [v], _ => exact ⟨v, rfl⟩
  · · obtain ⟨P, ex, h1⟩ := Good.fact1 g
      cases h1
      exact call_str_int pins s σ H _ us Q I r ⟨i, rfl, hlog, q _ _ ((Good.tail g).flat (.str _))⟩
theorem bi_min (hc : X.calm = true) : CallR X (.builtin "min") (rBi X.K cl (biD .min)) := by
  intro pins s σ H vs us Q I r ⟨ds, R, M, z, hl, g, hz, q⟩
  rcases inv_min hz with ⟨i, j, rfl, rfl⟩
  all_goals obtain ⟨v, w, rfl⟩ : ∃ v w, vs = [v, w] := by match vs, hl with | [v, w], _ => exact ⟨v, w, rfl⟩
  ·
    obtain ⟨P, ex, h1, h2⟩ := Good.fact2 g
    cases h1
    cases h2
    exact call_min2 hc pins s σ H _ us Q I r ⟨i, j, rfl, q _ _ ((Good.tail (Good.tail g)).flat (.int _))⟩
theorem allInt_rss {K : PySem.W.Frag} {P : Hp} : ∀ {vs : List V} {ds : List D} {ns : List Int}, Rss K cl P vs ds → allInt ds = some ns → vs = ns.map V.int
  | _, _, _, .nil, h => by simp [allInt] at h; subst h; rfl
  | _, _, _, .cons a r, h => by
    cases a with
    | int i =>
      simp only [allInt, Option.map_eq_some_iff] at h
      obtain ⟨ms, h, rfl⟩ := h
      rw [allInt_rss r h]
      rfl
    | _ => simp [allInt] at h
theorem bi_max (hc : X.calm = true) : CallR X (.builtin "max") (rBi X.K cl (biD .max)) := by
  intro pins s σ H vs us Q I r ⟨ds, R, M, z, hl, g, hz, q⟩
  rcases inv_max hz with ⟨i, j, rfl, rfl⟩ | ⟨xs, ns, m, rfl, hi, hm, rfl⟩
  · obtain ⟨v, w, rfl⟩ : ∃ v w, vs = [v, w] := by match vs, hl with | [v, w], _ => exact ⟨v, w, rfl⟩
    obtain ⟨P, ex, h1, h2⟩ := Good.fact2 g
    cases h1
    cases h2
    exact call_max2 hc pins s σ H _ us Q I r ⟨i, j, rfl, q _ _ ((Good.tail (Good.tail g)).flat (.int _))⟩
  · obtain ⟨v, rfl⟩ : ∃ v, vs = [v] := by match vs, hl with | [v], _ => exact ⟨v, rfl⟩
    obtain ⟨P, ex, h1⟩ := Good.fact1 g
    cases h1 with
    | lst e r' =>
      have hv := allInt_rss r' hi
      subst hv
      obtain ⟨l1, l2, l3⟩ := maxI_spec hm
      refine cr_max hc pins s σ H _ us Q I r ⟨_, ns, rfl, SqL.of (ex _ _ e), l1, fun m' h1 h2 => ?_⟩
      have : m' = m := Int.le_antisymm (l3 _ h1) (h2 _ l2)
      subst this
      exact q _ _ ((Good.tail g).flat (.int _))
theorem bi_sum (hc : X.calm = true) : CallR X (.builtin "sum") (rBi X.K cl (biD .sum)) := by
  intro pins s σ H vs us Q I r ⟨ds, R, M, z, hl, g, hz, q⟩
  rcases inv_sum hz with ⟨xs, ns, rfl, hn, rfl⟩
  all_goals obtain ⟨v, rfl⟩ : ∃ v, vs = [v] := by match vs, hl with | [v], _ => exact ⟨v, rfl⟩
  ·
    obtain ⟨P, ex, h1⟩ := Good.fact1 g
    cases h1 with
    | @lst a vs' _ e r0 =>
      have ev := allInt_rss r0 hn
      subst ev
      exact cr_sum hc pins s σ H _ us Q I r ⟨a, ns, rfl, SqL.of (ex _ _ e), q _ _ ((Good.tail g).flat (.int _))⟩
theorem allTru_rss {K : PySem.W.Frag} {P : Hp} : ∀ {vs : List V} {ds : List D} {bs : List Bool}, Rss K cl P vs ds → allTru ds = some bs → bs.length = vs.length ∧ ∀ i v, vs[i]? = some v → (v = .bl (bs.getD i false)) ∨ ∃ n, v = .int n ∧ bs.getD i false = (n != 0)
  | _, _, _, .nil, h => by simp [allTru] at h; subst h; exact ⟨rfl, fun i v h => by simp at h⟩
  | _, _, _, .cons a r, h => by
    cases a with
    | bl b =>
      simp only [allTru, Option.map_eq_some_iff] at h
      obtain ⟨ms, h, rfl⟩ := h
      obtain ⟨h1, h2⟩ := allTru_rss r h
      refine ⟨by rw [List.length_cons, List.length_cons, h1], fun i v hv => ?_⟩
      cases i with
      | zero => left; simpa using hv.symm
      | succ i => simpa using h2 i v (by simpa using hv)
    | int n =>
      simp only [allTru, Option.map_eq_some_iff] at h
      obtain ⟨ms, h, rfl⟩ := h
      obtain ⟨h1, h2⟩ := allTru_rss r h
      refine ⟨by rw [List.length_cons, List.length_cons, h1], fun i v hv => ?_⟩
      cases i with
      | zero => right; exact ⟨n, by simpa using hv.symm, by simp⟩
      | succ i => simpa using h2 i v (by simpa using hv)
    | _ => simp [allTru] at h
theorem truth_of {prog : Program} {w : World} {A : Around} {vs : List V} {its : List Value} {bs : List Bool} (rv : Vals vs its) (h : ∀ (i : Nat) v, vs[i]? = some v → (v = .bl (bs.getD i false)) ∨ ∃ n, v = .int n ∧ bs.getD i false = (n != 0)) :
    TruthOf prog w A (fun i v => its.toArray[i]? = some v) (fun i => bs.getD i false) := fun i v s Q E hv hq => by
  have hv' : its[i]? = some v := by simpa using hv
  have hi : i < vs.length := by
    rw [rv.length]
    exact (List.getElem?_eq_some_iff.mp hv').1
  obtain ⟨u, hu, ru⟩ := rv.get (List.getElem?_eq_getElem hi)
  rw [hv'] at hu
  cases hu
  rcases h i _ (List.getElem?_eq_getElem hi) with e | ⟨n, e, e2⟩
  · rw [e] at ru
    cases ru
    exact wpAny_truthy_bool hq
  · rw [e] at ru
    obtain ⟨t, rfl⟩ := ru
    dsimp only at hq
    rw [e2] at hq
    exact PySem.P.truthy_int hq
theorem any_range' : ∀ bs : List Bool, (List.range bs.length).any (fun i => bs.getD i false) = bs.any id := L2.any_range
theorem bi_all (hc : X.calm = true) : CallR X (.builtin "all") (rBi X.K cl (biD .all)) := by
  intro pins s σ H vs us Q I r ⟨ds, R, M, z, hl, g, hz, q⟩
  rcases inv_all hz with ⟨xs, bs, rfl, hn, rfl⟩
  all_goals obtain ⟨v, rfl⟩ : ∃ v, vs = [v] := by match vs, hl with | [v], _ => exact ⟨v, rfl⟩
  ·
    obtain ⟨P, ex, h1⟩ := Good.fact1 g
    cases h1 with
    | @lst a vs' _ e r0 =>
      obtain ⟨hbl, htr⟩ := allTru_rss r0 hn
      obtain ⟨its, rv, hli, _⟩ := I.list (SqL.of (ex _ _ e))
      rw [Vals.ref1 r]
      refine call_all_walk (iter_any hli.isList fun s₂ e2 st hne => ?_)
      subst e2
      refine ⟨_, _, _, _, _, _, _, rfl, Walks.list (A := X.A.in1) (I.ok.hd hc) _ a hne its.toArray, st, truth_of rv htr, fun h' tk hk => ?_⟩
      refine ⟨.bl _, H, I.kept fun b o eo => hk b o (fun hmem => ?_) (Heap.get?_push_of_some _ eo), ?_, q _ _ ((Good.tail g).flat (.bl _))⟩
      · rcases List.mem_cons.mp hmem with e1 | hmem
        · exact absurd (e1 ▸ Heap.lt_size eo) (Nat.lt_irrefl _)
        · cases hmem
      · show Value.bool _ = Value.bool _
        rw [← L2.all_range, List.size_toArray, ← rv.length, ← hbl]
theorem bi_any (hc : X.calm = true) : CallR X (.builtin "any") (rBi X.K cl (biD .any)) := by
  intro pins s σ H vs us Q I r ⟨ds, R, M, z, hl, g, hz, q⟩
  rcases inv_any hz with ⟨xs, bs, rfl, hn, rfl⟩
  all_goals obtain ⟨v, rfl⟩ : ∃ v, vs = [v] := by match vs, hl with | [v], _ => exact ⟨v, rfl⟩
  ·
    obtain ⟨P, ex, h1⟩ := Good.fact1 g
    cases h1 with
    | @lst a vs' _ e r0 =>
      obtain ⟨hbl, htr⟩ := allTru_rss r0 hn
      obtain ⟨its, rv, hli, _⟩ := I.list (SqL.of (ex _ _ e))
      rw [Vals.ref1 r]
      refine call_any_walk (iter_any hli.isList fun s₂ e2 st hne => ?_)
      subst e2
      refine ⟨_, _, _, _, _, _, _, rfl, Walks.list (A := X.A.in1) (I.ok.hd hc) _ a hne its.toArray, st, truth_of rv htr, fun h' tk hk => ?_⟩
      refine ⟨.bl _, H, I.kept fun b o eo => hk b o (fun hmem => ?_) (Heap.get?_push_of_some _ eo), ?_, q _ _ ((Good.tail g).flat (.bl _))⟩
      · rcases List.mem_cons.mp hmem with e1 | hmem
        · exact absurd (e1 ▸ Heap.lt_size eo) (Nat.lt_irrefl _)
        · cases hmem
      · show Value.bool _ = Value.bool _
        rw [← L2.any_range, List.size_toArray, ← rv.length, ← hbl]
end
end FB
namespace FB
open PySem L2 PyProof.Rows
section
variable {X : Cx} {cl : Nat → Addr} {W : WX} {a b c e o : Expr} {fa fb fc : FEnv → Ev DO} {pos : Pos}
/-! borrowed: evaluated with all shared, the answer flat -/
theorem Envs.shared : ∀ {σ : L2.St} {ρ : FEnv} {L : List Item}, Envs σ ρ L → Envs σ (sharedEnv ρ) (L.map shI)
  | _, _, _, .nil => .nil
  | _, _, _, .no h => .no h.shared
  | _, _, _, .yes h => .yes h.shared
theorem Envs.nocell : ∀ {σ : L2.St} {ρ : FEnv} {L : List Item}, Envs σ ρ L → ∀ a u, Item.cell a u ∉ L
  | _, _, _, .nil, _, _, h => by simp at h
  | _, _, _, .no h, a, u, hm => h.nocell a u hm
  | _, _, _, .yes h, a, u, hm => by
    rcases List.mem_cons.mp hm with e | hm
    · cases e
    · exact h.nocell a u hm
theorem flat_of {K : PySem.W.Frag} {R H : Hp} {v : V} {d : D} {o : O} {L : List Item} (g : Good K cl R H (.val v d o :: L)) (hf : d.flat = true) : Flat v d := by
  obtain ⟨P, ex, h⟩ := g.share.fact1
  cases h <;> first | constructor | cases hf
theorem se_bor (ha : PE X a (tE X.K cl W fa)) : PE X a (tE X.K cl W fun ρ => (match fa (sharedEnv ρ) with
    | .ok (d, _) _ => if d.flat then .ok (d, .sh) ρ else .stuck
    | .exc x _ => .exc x ρ
    | .stuck => .stuck)) :=
  PE.of ha fun σ H Q ⟨ρ, R, M, s, p⟩ => by
    obtain ⟨Le, he, g⟩ := s
    have gs : Good X.K cl H H (Le.map shI) := (Good.tailA (L := M) (g.perm List.perm_append_comm)).shareAll he.nocell
    refine ⟨sharedEnv ρ, H, [], ⟨_, he.shared, by rw [List.append_nil]; exact gs⟩, ?_⟩
    dsimp only at p
    cases ef : fa (sharedEnv ρ) with
    | ok x ρ1 =>
      obtain ⟨d, o⟩ := x
      rw [ef] at p
      dsimp only at p
      intro b H1 N hr s1
      subst hr
      by_cases hf : d.flat = true
      · rw [if_pos hf] at p
        obtain ⟨Le1, he1, g1⟩ := Sta.front (N := [.val b d o]) s1
        exact p b H1 _ rfl ⟨Le, he, ((g.heap g1.raw).flat (flat_of g1 hf)).perm List.perm_middle.symm⟩
      · rw [if_neg hf] at p
        exact p.elim
    | exc x ρ1 =>
      rw [ef] at p
      intro H1 dx s1 xo
      obtain ⟨Le1, he1, g1⟩ := s1
      exact p H1 dx ⟨Le, he, g.heap g1.raw⟩ xo
    | stuck =>
      rw [ef] at p
      exact p.elim
theorem st_bor {ft : FEnv → Ev Bool} (ha : PT X a (tT X.K cl W ft)) : PT X a (tT X.K cl W fun ρ => (match ft (sharedEnv ρ) with
    | .ok b _ => .ok b ρ
    | .exc x _ => .exc x ρ
    | .stuck => .stuck)) :=
  PT.of ha fun σ H Q ⟨ρ, R, M, s, p⟩ => by
    obtain ⟨Le, he, g⟩ := s
    have gs : Good X.K cl H H (Le.map shI) := (Good.tailA (L := M) (g.perm List.perm_append_comm)).shareAll he.nocell
    refine ⟨sharedEnv ρ, H, [], ⟨_, he.shared, by rw [List.append_nil]; exact gs⟩, ?_⟩
    dsimp only at p
    cases ef : ft (sharedEnv ρ) with
    | ok x ρ1 =>
      rw [ef] at p
      rintro b H1 N ⟨rfl, rfl⟩ ⟨Le1, he1, g1⟩
      exact p b H1 [] ⟨rfl, rfl⟩ ⟨Le, he, g.heap g1.raw⟩
    | exc x ρ1 =>
      rw [ef] at p
      intro H1 dx s1 xo
      obtain ⟨Le1, he1, g1⟩ := s1
      exact p H1 dx ⟨Le, he, g.heap g1.raw⟩ xo
    | stuck =>
      rw [ef] at p
      exact p.elim
/-! calls of built-ins -/
variable {fs : FEnv → Ev (List DO)} {es : List Expr} {hs : List (Option Nat)} {x : Str} {p' : Pos}
theorem bi_read {r : List V → Hp → VK → Prop} {f : List D → Option DO} {σ : L2.St} {H : Hp} {Q : VK} (hr : r = rBi X.K cl f) (h : Rd1 X.K cl repV W (fun ρ => (fs ρ).bind fun xs ρ1 => opt (f (xs.map (·.1))) ρ1 fun z => .ok z ρ1) σ H Q) :
    tCB r (tA X.K cl W hs fs) σ H Q := by
  subst hr
  obtain ⟨ρ, R, M, s, p⟩ := h
  refine ⟨ρ, R, M, s, (Post.bindF [] p).mono fun vs H1 ⟨xs, N, ρ1, ⟨hl, hl2, hN, hk2⟩, s1, p1⟩ => ?_⟩
  subst hN
  obtain ⟨z, hz, p2⟩ := p1.opt
  obtain ⟨Le, he, g⟩ := Sta.front (N := valsO vs xs) s1
  exact ⟨xs.map (·.1), R, Le ++ M, z, by rw [List.length_map, hl], g.shareMany hl, hz, fun v H' g' => p2 v H' _ rfl (Sta.ofFront (N := [.val v z.1 z.2]) he g')⟩
theorem se_biB {id : String} {bb : Bi} (hc : CallR X (.builtin id) (rBi X.K cl (biD bb))) (hg : Gl X x) (hm : X.mg x = none) (hv : bootBuiltins x = some (.builtin id)) (ha : PA X (e :: es) (tA X.K cl W hs fs)) (hn : x ≠ "__name__") (hdb : (x == ("__debug__" : Str)) = false)
    (he : starEach (e :: es) X.env = (false, eval e X.env) :: starEach es X.env) (hpl : (backTo pos (starEach es X.env)).any (·.1) = false) :
    PE X (.Call (.Name x p') (e :: es) [] pos) (tE X.K cl W fun ρ => (fs ρ).bind fun xs ρ1 => opt (biD bb (xs.map (·.1))) ρ1 fun z => .ok z ρ1) :=
  PE.of (pe_callB hc hg hm hv ha hn hdb he hpl) fun σ H Q h => bi_read rfl h
theorem se_biT {T : String} {bb : Bi} (hc : CallR X (.type T) (rBi X.K cl (biD bb))) (hg : Gl X x) (hm : X.mg x = none) (hv : bootBuiltins x = some (.type T)) (ha : PA X (e :: es) (tA X.K cl W hs fs)) (hn : x ≠ "__name__") (hdb : (x == ("__debug__" : Str)) = false)
    (he : starEach (e :: es) X.env = (false, eval e X.env) :: starEach es X.env) (hpl : (backTo pos (starEach es X.env)).any (·.1) = false) :
    PE X (.Call (.Name x p') (e :: es) [] pos) (tE X.K cl W fun ρ => (fs ρ).bind fun xs ρ1 => opt (biD bb (xs.map (·.1))) ρ1 fun z => .ok z ρ1) :=
  PE.of (pe_callTy hc hg hm hv ha hn hdb he hpl) fun σ H Q h => bi_read rfl h
/-! isinstance -/
/-- a kind's class -/
def kdV (cl : Nat → Addr) : Kd → Value
  | .non => .type "NoneType"
  | .bl => .type "bool"
  | .int => .type "int"
  | .str => .type "str"
  | .lst => .type "list"
  | .tup => .type "tuple"
  | .dic => .type "dict"
  | .obj c => .ref (cl c)
structure OwnTy (K : PySem.W.Frag) (C : Addr) : Prop where
  cl : Cls K C
  ha : PySem.W.findIn K (.ref C) "__class__" = some (some (.builtin "object.__class__"))
  hn : PySem.W.specialIn K (.builtin "object.__class__") "__get__" = some (some (.builtin "getset_descriptor.__get__"))
  htk : PySem.W.takesIn K (.builtin "object.__class__") = some true
  hm : PySem.W.mroIn K C (.type "object") = some true
/-- what isinstance tells of a class -/
structure IsiOk (K : PySem.W.Frag) (cl : Nat → Addr) (isk : Kd → Ty → Option Bool) (t : Ty) (c : V) (u : Value) : Prop where
  cv : ClsV c u
  ok : ∀ k b, isk k t = some b → PySem.W.kitOne K (kdV cl k) u = some b ∧ ∀ i, k = .obj i → OwnTy K (cl i)
theorem tyx_of {K : PySem.W.Frag} {P H : Hp} {v : V} {d : D} (ex : Ex P H) (h : Rs K cl P v d) (own : ∀ i, kdOf d = .obj i → OwnTy K (cl i)) : TyX K H v (kdV cl (kdOf d)) := by
  cases h with
  | non => exact .base .non
  | bl b => exact .base (.bl b)
  | int i => exact .base (.int i)
  | str s => exact .base (.str s)
  | lst e r => exact .base (.lst (ex _ _ e))
  | frz e r =>
    rcases e with (e | ⟨o, e⟩) | ⟨dd, us, n, e, oc, _⟩
    · exact .base (.lst (ex _ _ e))
    · exact .base (.frz (ex _ _ e))
    · exact .kList e oc
  | tup e r =>
    rcases e with (e | ⟨o, e⟩) | ⟨dd, us, n, e, oc, _⟩
    · exact .base (.tup (ex _ _ e))
    · exact .fTuple (ex _ _ e)
    · exact .kTuple e oc
  | dic e hk r =>
    rcases e with e | ⟨o, e⟩
    · exact .base (.dK (ex _ _ e))
    · exact .fDict (ex _ _ e)
  | obj e hk r =>
    obtain ⟨h1, h2, h3, h4, h5⟩ := own _ rfl
    exact .base (.ins (ex _ _ e) h1 h2 h3 h4 h5)
theorem se_isi {isk : Kd → Ty → Option Bool} {t : Ty} {cv : V} {u : Value} (ok : IsiOk X.K cl isk t cv u) (hg : Gl X x) (hm : X.mg x = none) (hv : bootBuiltins x = some (.builtin "isinstance")) (ha : PE X a (tE X.K cl W fa)) (hc : PE X c (tC cv)) (hn : x ≠ "__name__") (hdb : (x == ("__debug__" : Str)) = false)
    (he : starEach [a, c] X.env = (false, eval a X.env) :: starEach [c] X.env) (he2 : starEach [c] X.env = (false, eval c X.env) :: starEach [] X.env) (hpl : (backTo pos (starEach [c] X.env)).any (·.1) = false) :
    PE X (.Call (.Name x p') [a, c] [] pos) (tE X.K cl W fun ρ => (fa ρ).bind fun x ρ1 => opt (isk (kdOf x.1) t) ρ1 fun b => .ok (.bl b, .sh) ρ1) :=
  PE.of (pe_callB call_isi hg hm hv (pa_cons ha (pa_cons hc pa_nil he2) he) hn hdb he hpl) fun σ H Q ⟨ρ, R, M, s, p⟩ =>
    ⟨ρ, R, M, s, (Post.bindF [] p).mono fun v H1 ⟨y, N, ρ1, hr, s1, p1⟩ => by
      subst hr
      obtain ⟨b, hb, p2⟩ := p1.opt
      obtain ⟨Le, he, g⟩ := Sta.front (N := [.val v y.1 y.2]) s1
      obtain ⟨P, ex, h1⟩ := g.share.fact1
      obtain ⟨k1, k2⟩ := ok.ok _ _ hb
      exact ⟨v, cv, kdV cl (kdOf y.1), u, b, rfl, ok.cv, tyx_of ex h1 k2, k1, p2 _ H1 _ rfl (Sta.ofFront (N := [.val (.bl b) (.bl b) .sh]) he (g.tail.flat (.bl b)))⟩⟩
end
end FB
namespace FB
open PySem L2 PyProof.Rows
/-! ### statements -/
/-- the held parameters stay in their slots -/
def Kp (io : List Nat) (k : Nat → Option (Option V)) (σ : L2.St) : Prop := ∀ j ∈ io, σ[j]? = k j
theorem Kp.set {io : List Nat} {k : Nat → Option (Option V)} {σ : L2.St} {i : Nat} {x : Option V} (h : Kp io k σ) (n : io.contains i = false) : Kp io k (σ.set i x) := fun j hj => by
  have hne : i ≠ j := fun z => by
    subst z
    have : io.contains i = true := by simpa using hj
    rw [n] at this
    cases this
  rw [List.getElem?_set_ne hne]
  exact h j hj
section
variable (K : PySem.W.Frag) (cl : Nat → Addr)
def PostS (R : Hp) (M : List Item) (W : WX) (io : List Nat) (k : Nat → Option (Option V)) (D : Ends) : Fl → Prop
  | .nx ρ => ∀ σ H, Sta K cl σ H R ρ M → Kp io k σ → D.nx σ H
  | .br ρ => ∀ σ H, Sta K cl σ H R ρ M → Kp io k σ → D.bk σ H
  | .ct ρ => ∀ σ H, Sta K cl σ H R ρ M → Kp io k σ → D.ct σ H
  | .rt d o ρ => ∀ v σ H, Sta K cl σ H R ρ ([.val v d o] ++ M) → Kp io k σ → D.rt v H
  | .exc x ρ => ∀ σ H dx, Sta K cl σ H R ρ M → Kp io k σ → XOk H x dx → W (.ref (cl x.c)) dx σ H
  | .stuck => False
def tS (W : WX) (io : List Nat) (f : FEnv → Fl) : TS := fun D σ H => ∃ ρ R M k, Sta K cl σ H R ρ M ∧ Kp io k σ ∧ PostS K cl R M W io k D (f ρ)
end
section
variable {K : PySem.W.Frag} {cl : Nat → Addr} {σ σ' : L2.St} {H H' R R' P : Hp} {ρ ρ' : FEnv} {M N : List Item} {W : WX} {α β : Type} {io : List Nat} {k : Nat → Option (Option V)} {Dn : Ends}
theorem PostS.bindF {rep : β → α → List Item → Prop} {x : Ev α} {g : α → FEnv → Fl} (p : PostS K cl R M W io k Dn (x.fl g)) (hk : Kp io k σ) :
    Post K cl rep R M W σ (fun b H1 => ∃ a N2 ρ1, rep b a N2 ∧ Sta K cl σ H1 R ρ1 (N2 ++ M) ∧ PostS K cl R M W io k Dn (g a ρ1)) x := by
  cases x with
  | ok a ρ1 => exact fun b H1 N2 hr s1 => ⟨a, N2, ρ1, hr, s1, p⟩
  | exc x ρ1 => exact fun H' dx s xo => p σ H' dx s hk xo
  | stuck => exact p
theorem PostS.seq {f : Fl} {g : FEnv → Fl} (p : PostS K cl R M W io k Dn (f.seq g)) : PostS K cl R M W io k { Dn with nx := tS K cl W io g Dn } f := by
  cases f with
  | nx ρ => exact fun σ H s hk => ⟨ρ, R, M, k, s, hk, p⟩
  | br ρ => exact p
  | ct ρ => exact p
  | rt d o ρ => exact p
  | exc x ρ => exact p
  | stuck => exact p
theorem Sta.put {i : Nat} {v : V} {d : D} {o : O} (h : Sta K cl σ H R ρ ([.val v d o] ++ M)) : Sta K cl (σ.set i (some v)) H R (ρ.set i (some (d, o))) M := by
  obtain ⟨Le, a, b⟩ := h
  by_cases hi : i < σ.length
  · obtain ⟨M1, L', L2, p, q, e⟩ := a.put i v d o hi
    refine ⟨L2, e, ?_⟩
    have b1 : Good K cl R H (M1 ++ (.val v d o :: (L' ++ M))) := by
      refine b.perm ?_
      refine (p.append_right _).trans ?_
      rw [List.append_assoc]
      exact (List.perm_middle (a := Item.val v d o) (l₁ := L') (l₂ := M)).append_left M1
    exact (b1.tailA).perm ((q.append_right M).symm)
  · rw [List.set_eq_of_length_le (by omega), List.set_eq_of_length_le (by rw [← a.len]; omega)]
    exact ⟨Le, a, (b.perm (List.perm_middle (a := Item.val v d o) (l₁ := Le) (l₂ := M))).tail⟩
/-- a rawer raw part -/
theorem Good.mono {L : List Item} (e : Ex R R') (g : Good K cl R' H L) : Good K cl R H L := let ⟨P, f, a, b⟩ := g; ⟨P, f, e.trans a, b⟩
theorem Sta.mono (e : Ex R R') (s : Sta K cl σ H R' ρ M) : Sta K cl σ H R ρ M := let ⟨Le, a, b⟩ := s; ⟨Le, a, b.mono e⟩
theorem PostS.mono {f : Fl} (e : Ex R R') (p : PostS K cl R M W io k Dn f) : PostS K cl R' M W io k Dn f := by
  cases f with
  | nx ρ => exact fun σ H s hk => p σ H (s.mono e) hk
  | br ρ => exact fun σ H s hk => p σ H (s.mono e) hk
  | ct ρ => exact fun σ H s hk => p σ H (s.mono e) hk
  | rt d o ρ => exact fun v σ H s hk => p v σ H (s.mono e) hk
  | exc x ρ => exact fun σ H dx s hk xo => p σ H dx (s.mono e) hk xo
  | stuck => exact p
theorem PostS.ends {f : Fl} {Dn' : Ends} (p : PostS K cl R M W io k Dn f) (h1 : ∀ σ H, Dn.nx σ H → Dn'.nx σ H) (h2 : ∀ σ H, Dn.bk σ H → Dn'.bk σ H) (h3 : ∀ σ H, Dn.ct σ H → Dn'.ct σ H) (h4 : ∀ v H, Dn.rt v H → Dn'.rt v H) : PostS K cl R M W io k Dn' f := by
  cases f with
  | nx ρ => exact fun σ H s hk => h1 _ _ (p σ H s hk)
  | br ρ => exact fun σ H s hk => h2 _ _ (p σ H s hk)
  | ct ρ => exact fun σ H s hk => h3 _ _ (p σ H s hk)
  | rt d o ρ => exact fun v σ H s hk => h4 _ _ (p v σ H s hk)
  | exc x ρ => exact p
  | stuck => exact p
/-- the shared part told apart -/
theorem Sta.grow {v : V} {d : D} (h : Sta K cl σ H R ρ ([.val v d .sh] ++ M)) : ∃ P, Ex R P ∧ Rs K cl P v d ∧ Sta K cl σ H P ρ ([.val v d .sh] ++ M) := by
  obtain ⟨Le, he, g⟩ := h.front
  obtain ⟨P, f, r1, r2, c, n, e⟩ := g
  cases e with
  | @val _ _ _ f1 f2 _ h1 r =>
    cases h1 with
    | sh h1 => exact ⟨P, r1, h1, Sta.ofFront (N := [.val v d .sh]) he ⟨P, _, Ex.refl P, r2, c, n, .val (f := []) (.sh h1) r⟩⟩
theorem Good.rsP {L : List Item} {v : V} {d : D} (g : Good K cl R H L) (h : Rs K cl R v d) : Good K cl R H (.val v d .sh :: L) := by
  obtain ⟨P, f, a, b, c, n, e⟩ := g
  exact ⟨P, f, a, b, c, n, .val (f := []) (.sh (h.mono a)) e⟩
theorem Sta.raw (s : Sta K cl σ H R ρ M) : Ex R H := let ⟨_, _, b⟩ := s; b.raw
end
theorem PS.of {X : Cx} {e : Stmt} {t t' : TS} (h : PS X e t) (k : ∀ D σ H, t' D σ H → t D σ H) : PS X e t' := ⟨fun pins s σ H D I q => h.run pins s σ H D I (k D σ H q)⟩
theorem PSs.of {X : Cx} {e : List Stmt} {t t' : TS} (h : PSs X e t) (k : ∀ D σ H, t' D σ H → t D σ H) : PSs X e t' := ⟨fun pins s σ H D I q => h.run pins s σ H D I (k D σ H q)⟩
section
variable {X : Cx} {cl : Nat → Addr} {W : WX} {io : List Nat} {a b c e o : Expr} {fa fb fc : FEnv → Ev DO} {pos pos' : Pos} {st : Stmt} {ss : List Stmt} {f g : FEnv → Fl}
abbrev ttS (X : Cx) (cl : Nat → Addr) (W : WX) (io : List Nat) (f : FEnv → Fl) : TS := tS X.K cl W io f
theorem ss_no : PS X st (ttS X cl W io fun _ => .stuck) := ⟨fun pins s σ H D I ⟨ρ, R, M, k, s0, hk, p⟩ => p.elim⟩
theorem sss_nil : PSs X [] (ttS X cl W io fun ρ => .nx ρ) := PSs.of pss_nil fun D σ H ⟨ρ, R, M, k, s, hk, p⟩ => p σ H s hk
theorem sss_cons (h1 : PS X st (ttS X cl W io f)) (h2 : PSs X ss (ttS X cl W io g)) : PSs X (st :: ss) (ttS X cl W io fun ρ => (f ρ).seq g) :=
  PSs.of (pss_cons h1 h2) fun D σ H ⟨ρ, R, M, k, s, hk, p⟩ => ⟨ρ, R, M, k, s, hk, p.seq⟩
theorem ss_pass : PS X (.Pass pos) (ttS X cl W io fun ρ => .nx ρ) := PS.of ps_pass fun D σ H ⟨ρ, R, M, k, s, hk, p⟩ => p σ H s hk
theorem ss_brk : PS X (.Break pos) (ttS X cl W io fun ρ => .br ρ) := PS.of ps_break fun D σ H ⟨ρ, R, M, k, s, hk, p⟩ => p σ H s hk
theorem ss_cont : PS X (.Continue pos) (ttS X cl W io fun ρ => .ct ρ) := PS.of ps_continue fun D σ H ⟨ρ, R, M, k, s, hk, p⟩ => p σ H s hk
theorem ss_ex (ha : PE X e (tE X.K cl W fa)) (hs : swapsWith e none pos.line X.env = pure false) : PS X (.Expr e pos) (ttS X cl W io fun ρ => (fa ρ).fl fun _ ρ1 => .nx ρ1) :=
  PS.of (ps_expr ha hs) fun D σ H ⟨ρ, R, M, k, s, hk, p⟩ => ⟨ρ, R, M, s, (p.bindF hk).mono fun v H1 ⟨x, N, ρ1, hr, s1, p1⟩ => p1 _ _ s1.dropL hk⟩
theorem ss_ret (ha : PE X e (tE X.K cl W fa)) : PS X (.Return (some e) pos) (ttS X cl W io fun ρ => (fa ρ).fl fun x ρ1 => .rt x.1 x.2 ρ1) :=
  PS.of (ps_ret ha) fun D σ H ⟨ρ, R, M, k, s, hk, p⟩ => ⟨ρ, R, M, s, (p.bindF hk).mono fun v H1 ⟨x, N, ρ1, hr, s1, p1⟩ => by
    subst hr
    exact p1 v _ _ s1 hk⟩
theorem ss_retN : PS X (.Return none pos) (ttS X cl W io fun ρ => .rt .non .sh ρ) :=
  PS.of ps_retN fun D σ H ⟨ρ, R, M, k, s, hk, p⟩ => p .non σ H (Sta.item (N := []) (N' := [.val .non .non .sh]) s fun L g => g.flat .non) hk
theorem ss_ite {as bs : List Stmt} {tt : FEnv → Ev Bool} (hc : PT X c (tT X.K cl W tt)) (ha : PSs X as (ttS X cl W io f)) (hb : PSs X bs (ttS X cl W io g)) :
    PS X (.If c as bs pos) (ttS X cl W io fun ρ => (tt ρ).fl fun c ρ1 => if c then f ρ1 else g ρ1) :=
  PS.of (ps_if hc ha hb) fun D σ H ⟨ρ, R, M, k, s, hk, p⟩ => ⟨ρ, R, M, s, (p.bindF hk).mono fun v H1 ⟨x, N, ρ1, hr, s1, p1⟩ => by
    obtain ⟨rfl, rfl⟩ := hr
    cases v with
    | true => exact ⟨ρ1, R, M, k, s1, hk, p1⟩
    | false => exact ⟨ρ1, R, M, k, s1, hk, p1⟩⟩
theorem ss_asg {i : Nat} {x : Str} {p' : Pos} (hN : X.N.Nodup) (hi : X.N[i]? = some x) (hx : Loc X.env.scope x) (ha : PE X e (tE X.K cl W fa)) (hs : swapsWith e (some (.Name x p')) pos.line X.env = pure false) (hf : X.fn x = true ∨ X.env.scope.names.lookup x = some .local) (hio : io.contains i = false) :
    PS X (.Assign [.Name x p'] e pos) (ttS X cl W io fun ρ => (fa ρ).fl fun x ρ1 => .nx (ρ1.set i (some x))) :=
  PS.of (ps_set hN hi hx ha hs hf) fun D σ H ⟨ρ, R, M, k, s, hk, p⟩ => ⟨ρ, R, M, s, (p.bindF hk).mono fun v H1 ⟨x, N, ρ1, hr, s1, p1⟩ => by
    subst hr
    exact p1 _ _ s1.put (hk.set hio)⟩
/-! ### what a loop walks -/
/-- an iterator that yields what ds tells -/
def ItOk (K : PySem.W.Frag) (cl : Nat → Addr) (P : Hp) (J : L2.It) (ds : List D) : Prop :=
  ∀ H, Ex P H → J.stop ds.length H ∧ ∀ i d, ds[i]? = some d → J.go i H ∧ ∀ x H', J.yld i H x H' → ∀ L, Good K cl P H L → Good K cl P H' (.val x d .sh :: L)
def PostI (K : PySem.W.Frag) (cl : Nat → Addr) (R : Hp) (M : List Item) (W : WX) (σ : L2.St) (Rk : L2.It → Hp → Prop) : Ev (List D) → Prop
  | .ok ds ρ' => ∀ J H' P, Ex R P → ItOk K cl P J ds → Sta K cl σ H' P ρ' M → Rk J H'
  | .exc x ρ' => ∀ H' dx, Sta K cl σ H' R ρ' M → XOk H' x dx → W (.ref (cl x.c)) dx σ H'
  | .stuck => False
def tI (K : PySem.W.Frag) (cl : Nat → Addr) (W : WX) (f : FEnv → Ev (List D)) : TI := fun σ H Rk => ∃ ρ R M, Sta K cl σ H R ρ M ∧ PostI K cl R M W σ Rk (f ρ)
/-- a list or a tuple -/
def iSeq (K : PySem.W.Frag) (tl : TE) : TI := fun σ H R => tl σ H fun x H1 => ∃ a, x = .ref a ∧ (((∃ xs, SqL K H1 a xs) ∧ R (Itl K a) H1) ∨ ((∃ xs, SqT K H1 a xs) ∧ R (Itt K a) H1))
theorem pi_seq {tg l : Expr} {tl : TE} (hl : PE X l tl) : PI X tg l (iSeq X.K tl) := by
  refine ⟨fun pins s σ H R I h => ?_⟩
  refine thn (hl.run pins s σ H _ I h) fun v s1 ⟨x, H1, I1, r1, q1⟩ => ?_
  obtain ⟨a, e, q⟩ := q1
  subst e
  cases r1
  rcases q with ⟨⟨xs, hq⟩, q⟩ | ⟨⟨xs, hq⟩, q⟩
  · obtain ⟨its, rv, p, hz⟩ := I1.list hq
    refine wpAny_pyIter_list p.isList ?_
    refine ⟨s1.heap.objs.size, [s1.heap.objs.size], _, _, H1, rfl, I1.kept (t' := s1.toks) fun b o e => Heap.get?_push_of_some _ e, turn_list a _, ⟨_, Heap.get?_push_size _ rfl, rfl, rfl⟩, fun b hb => ?_, q⟩
    have e : b = s1.heap.objs.size := by simpa using hb
    subst e
    exact I1.fpOk (Nat.le_refl _) (I1.hok.fresh (Nat.le_refl _))
  · obtain ⟨its, rv, p, hz⟩ := I1.tuple hq
    refine wpAny_pyIter_tuple (show s1.heap.IsTuple a its.toArray from p) ?_
    refine ⟨s1.heap.objs.size, [s1.heap.objs.size], _, _, H1, rfl, I1.kept (t' := s1.toks) fun b o e => Heap.get?_push_of_some _ e, turn_tuple a _, ⟨_, Heap.get?_push_size _ rfl, rfl, rfl⟩, fun b hb => ?_, q⟩
    have e : b = s1.heap.objs.size := by simpa using hb
    subst e
    exact I1.fpOk (Nat.le_refl _) (I1.hok.fresh (Nat.le_refl _))
theorem PI.of {tg l : Expr} {t t' : TI} (h : PI X tg l t) (k : ∀ σ H R, t' σ H R → t σ H R) : PI X tg l t' := ⟨fun pins s σ H R I q => h.run pins s σ H R I (k σ H R q)⟩
theorem PostI.bindF {σ : L2.St} {R : Hp} {M : List Item} {Rk : L2.It → Hp → Prop} {α β : Type} {rep : β → α → List Item → Prop} {x : Ev α} {g : α → FEnv → Ev (List D)} (N : List Item) (p : PostI X.K cl R M W σ Rk (x.bind g)) :
    Post X.K cl rep R (N ++ M) W σ (fun b H1 => ∃ a N2 ρ1, rep b a N2 ∧ Sta X.K cl σ H1 R ρ1 (N2 ++ (N ++ M)) ∧ PostI X.K cl R M W σ Rk (g a ρ1)) x := by
  cases x with
  | ok a ρ1 => exact fun b H1 N2 hr s1 => ⟨a, N2, ρ1, hr, s1, p⟩
  | exc x ρ1 => exact fun H' dx s k => p H' dx s.dropL k
  | stuck => exact p
theorem rss_get {K : PySem.W.Frag} {P : Hp} {vs : List V} {ds : List D} {i : Nat} {d : D} (r : Rss K cl P vs ds) (h : ds[i]? = some d) : ∃ v, vs[i]? = some v ∧ Rs K cl P v d := r.get h
theorem itl_ok {K : PySem.W.Frag} {P : Hp} {a : Addr} {vs : List V} {ds : List D} (hq : SqL K P a vs) (r : Rss K cl P vs ds) : ItOk K cl P (Itl K a) ds := fun H ex =>
  ⟨⟨vs, ex_l ex hq, by rw [r.length]; exact Nat.le_refl _⟩, fun i d hd => by
    obtain ⟨v, hv, q⟩ := rss_get r hd
    refine ⟨⟨vs, v, ex_l ex hq, hv⟩, fun x H' ⟨e, y⟩ L g => ?_⟩
    subst e
    have hx := y vs (ex_l ex hq)
    rw [hv] at hx
    cases hx
    exact g.rsP q⟩
theorem itt_ok {K : PySem.W.Frag} {P : Hp} {a : Addr} {vs : List V} {ds : List D} (hq : SqT K P a vs) (r : Rss K cl P vs ds) : ItOk K cl P (Itt K a) ds := fun H ex =>
  ⟨⟨vs, ex_t ex hq, by rw [r.length]; exact Nat.le_refl _⟩, fun i d hd => by
    obtain ⟨v, hv, q⟩ := rss_get r hd
    refine ⟨⟨vs, v, ex_t ex hq, hv⟩, fun x H' ⟨e, y⟩ L g => ?_⟩
    subst e
    have hx := y vs (ex_t ex hq)
    rw [hv] at hx
    cases hx
    exact g.rsP q⟩
theorem si_e {tg : Expr} (ha : PE X a (tE X.K cl W fa)) : PI X tg a (tI X.K cl W fun ρ => (fa ρ).bind fun x ρ1 => opt (seqD x.1) ρ1 fun ds => .ok ds ρ1) :=
  PI.of (pi_seq ha) fun σ H Rk ⟨ρ, R, M, s, p⟩ => ⟨ρ, R, M, s, (PostI.bindF [] p).mono fun v H1 ⟨x, N, ρ1, hr, s1, p1⟩ => by
    subst hr
    obtain ⟨d, o⟩ := x
    have s2 : Sta X.K cl σ H1 R ρ1 ([.val v d .sh] ++ M) := Sta.item (N := [.val v d o]) (N' := [.val v d .sh]) s1 fun L g => g.share
    obtain ⟨P, ex, h1, s3⟩ := s2.grow
    have exH : Ex P H1 := s3.raw
    cases hd : seqD d with
    | none =>
      rw [hd] at p1
      exact p1.elim
    | some ds =>
      rw [hd] at p1
      cases h1 with
      | @lst q vs _ e r => cases hd; exact ⟨q, rfl, .inl ⟨⟨vs, SqL.of (exH _ _ e)⟩, p1 _ H1 P ex (itl_ok (SqL.of e) r) s3.dropL⟩⟩
      | @tup q vs _ e r => cases hd; exact ⟨q, rfl, .inr ⟨⟨vs, ex_t exH e⟩, p1 _ H1 P ex (itt_ok e r) s3.dropL⟩⟩
      | @frz q vs _ e r => cases hd; exact ⟨q, rfl, .inl ⟨⟨vs, ex_l exH e⟩, p1 _ H1 P ex (itl_ok e r) s3.dropL⟩⟩
      | _ => cases hd⟩
end
end FB
namespace FB
open PySem L2 PyProof.Rows
section
variable {K : PySem.W.Frag} {cl : Nat → Addr}
theorem Envs.weak : ∀ {σ σ' : L2.St} {ρ : FEnv} {L : List Item}, Envs σ ρ L → σ'.length = σ.length → (∀ (i : Nat) x, ρ[i]? = some (some x) → σ'[i]? = σ[i]?) → Envs σ' ρ L
  | [], σ', _, _, .nil, hl, _ => by
    cases σ' with
    | nil => exact .nil
    | cons _ _ => cases hl
  | _, [], _, _, .no h, hl, _ => by cases hl
  | _, y :: σ', _, _, .no h, hl, k => .no (h.weak (Nat.succ.inj hl) fun i x e => by simpa using k (i + 1) x (by simpa using e))
  | _, [], _, _, .yes h, hl, _ => by cases hl
  | _, y :: σ', _, _, .yes h, hl, k => by
    have e := k 0 _ rfl
    simp at e
    subst e
    exact .yes (h.weak (Nat.succ.inj hl) fun i x e => by simpa using k (i + 1) x (by simpa using e))
theorem Good.rssP {R H : Hp} {L : List Item} {vs : List V} {ds : List D} (g : Good K cl R H L) (h : Rss K cl R vs ds) : Good K cl R H (shs vs ds ++ L) := by
  obtain ⟨P, f, a, b, c, n, e⟩ := g
  exact ⟨P, [] ++ f, a, b, c, n, (Its.ofRss (h.mono a)).append e⟩
theorem Sta.weak {σ σ' : L2.St} {H R : Hp} {ρ : FEnv} {M : List Item} (s : Sta K cl σ H R ρ M) (hl : σ'.length = σ.length) (k : ∀ (i : Nat) x, ρ[i]? = some (some x) → σ'[i]? = σ[i]?) : Sta K cl σ' H R ρ M := let ⟨Le, a, b⟩ := s; ⟨Le, a.weak hl k, b⟩
theorem Sta.del {σ : L2.St} {H R : Hp} {ρ : FEnv} {M : List Item} (i : Nat) (s : Sta K cl σ H R ρ M) : Sta K cl σ H R (ρ.set i none) M := by
  obtain ⟨Le, a, b⟩ := s
  obtain ⟨M1, L', p, q, _⟩ := a.del i
  exact ⟨L', q, ((b.perm (p.append_right M)).perm (by rw [List.append_assoc])).tailA⟩
theorem Sta.wiped {σ : L2.St} {H R : Hp} {ρ : FEnv} {M : List Item} (s : Sta K cl σ H R ρ M) : ∀ js : List Nat, Sta K cl σ H R (wipeE ρ js) M
  | [] => s
  | j :: js => (Sta.wiped s js).del j
theorem wipeE_get {ρ : FEnv} {i : Nat} {x : DO} : ∀ {js : List Nat}, (wipeE ρ js)[i]? = some (some x) → js.contains i = false
  | [], _ => rfl
  | j :: js, h => by
    unfold wipeE at h
    by_cases e : j = i
    · subst e
      by_cases hv : j < (wipeE ρ js).length
      · rw [List.getElem?_set_self hv] at h; cases h
      · rw [List.getElem?_eq_none (by simpa using hv)] at h; cases h
    · rw [List.getElem?_set_ne e] at h
      have := wipeE_get h
      simp only [List.contains_cons, this, Bool.or_false]
      simpa using fun z => e z.symm
/-- the slots js may hold anything when they are wiped -/
theorem Sta.other {σ σ' : L2.St} {H R : Hp} {ρ : FEnv} {M : List Item} {js : List Nat} (s : Sta K cl σ H R (wipeE ρ js) M) (hl : σ'.length = σ.length) (k : ∀ i, js.contains i = false → σ'[i]? = σ[i]?) : Sta K cl σ' H R (wipeE ρ js) M :=
  s.weak hl fun i x e => k i (wipeE_get e)
theorem Kp.other {σ σ' : L2.St} {io : List Nat} {k : Nat → Option (Option V)} {js : List Nat} (h : Kp io k σ) (hio : ∀ j ∈ io, js.contains j = false) (e : ∀ i, js.contains i = false → σ'[i]? = σ[i]?) : Kp io k σ' := fun j hj => (e j (hio j hj)).trans (h j hj)
end
section
variable {X : Cx} {cl : Nat → Addr} {W : WX} {io : List Nat} {fa fb : FEnv → Ev DO} {pos pos' : Pos}
/-- a loop's target -/
def TgR (K : PySem.W.Frag) (cl : Nat → Addr) (js : List Nat) (tp : Bool) (g : TG) : Prop := ∀ {R : Hp} {M : List Item} {v : V} {d : D} {σ : L2.St} {H : Hp} {ρ ρ2 : FEnv} {Q : L2.St → Hp → Prop}, Sta K cl σ H R ρ ([.val v d .sh] ++ M) → bindTg js tp d ρ = some ρ2 →
    (∀ σ', Sta K cl σ' H R ρ2 M → (∀ i, js.contains i = false → σ'[i]? = σ[i]?) → σ'.length = σ.length → Q σ' H) → g v σ H Q
structure TgOk (X : Cx) (cl : Nat → Addr) (tg : Expr) (js : List Nat) (tp : Bool) (g : TG) : Prop where
  pg : PG X tg g
  ok : TgR X.K cl js tp g
theorem tg_name {j : Nat} {x : Str} (hN : X.N.Nodup) (hi : X.N[j]? = some x) (hx : Loc X.env.scope x) (hf : X.fn x = true ∨ X.env.scope.names.lookup x = some .local) : TgOk X cl (.Name x pos) [j] false (gName j) :=
  ⟨pg_name hN hi hx hf, fun {R M v d σ H ρ ρ2 Q} s e q => by
    simp only [bindTg] at e
    cases e
    refine q _ s.put (fun i hi => ?_) (by rw [List.length_set])
    have hne : j ≠ i := fun z => by subst z; simp at hi
    rw [List.getElem?_set_ne hne]⟩
/-! a, b, .. -/
def gNames : List Nat → TGs
  | [] => gNil
  | j :: js => gCons (gName j) (gNames js)
theorem gNames_ok {K : PySem.W.Frag} {R : Hp} {M : List Item} {H : Hp} : ∀ {js : List Nat} {vs : List V} {ds : List D} {σ : L2.St} {ρ : FEnv} {Q : L2.St → Hp → Prop}, vs.length = ds.length → js.length = ds.length → Sta K cl σ H R ρ (shs vs ds ++ M) →
    (∀ σ', Sta K cl σ' H R ((js.zip ds).foldl (fun ρ x => ρ.set x.1 (some (x.2, .sh))) ρ) M → (∀ i, js.contains i = false → σ'[i]? = σ[i]?) → σ'.length = σ.length → Q σ' H) → gNames js vs σ H Q
  | [], [], [], σ, ρ, Q, _, _, s, q => ⟨rfl, q σ s (fun _ _ => rfl) rfl⟩
  | j :: js, v :: vs, d :: ds, σ, ρ, Q, h1, h2, s, q => by
    refine ⟨v, vs, rfl, gNames_ok (Nat.succ.inj h1) (Nat.succ.inj h2) (Sta.put (d := d) (o := .sh) s) fun σ' s' k hl => ?_⟩
    refine q σ' s' (fun i hi => ?_) (by rw [hl, List.length_set])
    simp only [List.contains_cons, Bool.or_eq_false_iff] at hi
    rw [k i hi.2]
    have hne : j ≠ i := fun z => by subst z; simp at hi
    rw [List.getElem?_set_ne hne]
  | [], [], d :: ds, _, _, _, h1, _, _, _ => by cases h1
  | [], _ :: _, _, _, _, _, h1, h2, _, _ => by rw [List.length_cons, ← h2] at h1; cases h1
  | _ :: _, [], _, _, _, _, h1, h2, _, _ => by rw [← h1] at h2; cases h2
  | _ :: _, _ :: _, [], _, _, _, h1, _, _, _ => by cases h1
/-- (a, b, ..) = a tuple or a list of that length -/
def gTL (K : PySem.W.Frag) (n : Nat) (t : TGs) : TG := fun v σ H Q => gTup K n t v σ H Q ∨ gLst K n t v σ H Q
theorem pg_tl {es : List Expr} {k : Nat} {t : TGs} {n : Nat} (hc : X.calm = true) (h : PGs X es t)
    (hn : (assignEach es X.env).length = n := by rfl) (hst : (assignEach es X.env).findIdx? (·.1) = none := by rfl) : PG X (.Tuple es k pos) (gTL X.K n t) :=
  ⟨fun pins s σ H v u Q I r hw => hw.elim ((pg_tup hc h hn hst).run pins s σ H v u Q I r) ((pg_lst hc h hn hst).run pins s σ H v u Q I r)⟩
theorem bindTg_sq {js : List Nat} {d : D} {ρ ρ2 : FEnv} (e : bindTg js true d ρ = some ρ2) : ∃ ds, (d = .tup ds ∨ d = .lst ds) ∧ js.length = ds.length ∧ ρ2 = (js.zip ds).foldl (fun ρ x => ρ.set x.1 (some (x.2, .sh))) ρ := by
  cases d with
  | tup ds =>
    refine ⟨ds, .inl rfl, ?_⟩
    match js, e with
    | [], e =>
      simp only [bindTg] at e
      split at e
      · rename_i hh; exact ⟨hh, (Option.some.inj e).symm⟩
      · cases e
    | [j], e =>
      simp only [bindTg] at e
      split at e
      · rename_i hh; exact ⟨hh, (Option.some.inj e).symm⟩
      · cases e
    | _ :: _ :: _, e =>
      simp only [bindTg] at e
      split at e
      · rename_i hh; exact ⟨hh, (Option.some.inj e).symm⟩
      · cases e
  | lst ds =>
    refine ⟨ds, .inr rfl, ?_⟩
    match js, e with
    | [], e =>
      simp only [bindTg] at e
      split at e
      · rename_i hh; exact ⟨hh, (Option.some.inj e).symm⟩
      · cases e
    | [j], e =>
      simp only [bindTg] at e
      split at e
      · rename_i hh; exact ⟨hh, (Option.some.inj e).symm⟩
      · cases e
    | _ :: _ :: _, e =>
      simp only [bindTg] at e
      split at e
      · rename_i hh; exact ⟨hh, (Option.some.inj e).symm⟩
      · cases e
  | _ => match js, e with
    | [], e => cases e
    | [j], e => cases e
    | _ :: _ :: _, e => cases e
theorem tgr_tl {K : PySem.W.Frag} {js : List Nat} {n : Nat} (hn : js.length = n) : TgR K cl js true (gTL K n (gNames js)) := fun {R M v d σ H ρ ρ2 Q} s e q => by
    obtain ⟨ds, hd, hl, rfl⟩ := bindTg_sq e
    obtain ⟨P, ex, h1, s3⟩ := s.grow
    have exH : Ex P H := s3.raw
    rcases hd with rfl | rfl
    · cases h1 with
      | @tup a vs _ e r =>
        refine Or.inl ⟨a, vs, rfl, ex_t exH e, by rw [r.length, ← hl, hn], gNames_ok r.length hl (R := R) (M := M) (ρ := ρ) ?_ q⟩
        exact (Sta.item (N := []) (N' := shs vs ds) s3.dropL fun L g => g.rssP r).mono ex
    · cases h1 with
      | @lst a vs _ e r =>
        refine Or.inr ⟨a, vs, rfl, ex_l exH (Or.inl (Or.inl e)), by rw [r.length, ← hl, hn], gNames_ok r.length hl (R := R) (M := M) (ρ := ρ) ?_ q⟩
        exact (Sta.item (N := []) (N' := shs vs ds) s3.dropL fun L g => g.rssP r).mono ex
theorem tg_tup {js : List Nat} {es : List Expr} {kk n : Nat} (hc : X.calm = true) (hn : js.length = n) (h : PGs X es (gNames js)) (hl : (assignEach es X.env).length = n) (hst : (assignEach es X.env).findIdx? (·.1) = none) : TgOk X cl (.Tuple es kk pos) js true (gTL X.K n (gNames js)) :=
  ⟨pg_tl hc h hl hst, tgr_tl hn⟩

theorem PostS.toI {R : Hp} {M : List Item} {σ : L2.St} {k : Nat → Option (Option V)} {Dn : Ends} {Rk : L2.It → Hp → Prop} {x : Ev (List D)} {g : List D → FEnv → Fl} (p : PostS X.K cl R M W io k Dn (x.fl g)) (hk : Kp io k σ)
    (h : ∀ ds ρ1, x = .ok ds ρ1 → PostS X.K cl R M W io k Dn (g ds ρ1) → ∀ J H' P, Ex R P → ItOk X.K cl P J ds → Sta X.K cl σ H' P ρ1 M → Rk J H') : PostI X.K cl R M W σ Rk x := by
  cases x with
  | ok a ρ1 => exact h a ρ1 rfl p
  | exc x ρ1 => exact fun H' dx s xo => p σ H' dx s hk xo
  | stuck => exact p
theorem ss_for1 {tg iter : Expr} {body : List Stmt} {js : List Nat} {tp : Bool} {g : TG} {fi : FEnv → Ev (List D)} {fb : FEnv → Fl} (hp : PassesOwn (model X.prog X.w) X.A X.env X.xe) (hc : X.calm = true) (hi : PI X tg iter (tI X.K cl W fi)) (hg : TgOk X cl tg js tp g) (hb : PSs X body (ttS X cl W io fb))
    (hs : ∀ x, foldedSetIterable iter X.env x = pure x) (hio : ∀ j ∈ io, js.contains j = false) : PS X (.For tg iter body [] pos) (ttS X cl W io fun ρ => (fi ρ).fl fun ds ρ1 => forLoop (forBody js tp fb) ds ρ1) :=
  PS.of (ps_for hp hc hi hg.pg hb hs) fun Dn σ H ⟨ρ, R, M, k, s, hk, p⟩ => ⟨ρ, R, M, s, p.toI hk fun ds ρ1 _ p J H1 P ex it s1 => by
    refine ⟨fun i m σ H => m = ds.length - i ∧ i ≤ ds.length ∧ ∃ ρ, Sta X.K cl σ H P ρ M ∧ Kp io k σ ∧ PostS X.K cl P M W io k Dn (forLoop (forBody js tp fb) (ds.drop i) ρ), ⟨_, rfl, Nat.zero_le _, ρ1, s1, hk, (p.mono ex)⟩, ?_⟩
    rintro i m σ H ⟨rfl, hi, ρ, s, hk, p⟩
    obtain ⟨h1, h2⟩ := it H s.raw
    by_cases hlt : i < ds.length
    · right
      obtain ⟨g1, g2⟩ := h2 i _ (List.getElem?_eq_getElem hlt)
      refine ⟨g1, fun σ' H' => ∃ ρ, Sta X.K cl σ' H' P ρ M ∧ Kp io k σ' ∧ PostS X.K cl P M W io k Dn (forLoop (forBody js tp fb) (ds.drop (i + 1)) ρ), fun σ' H' h => ⟨ds.length - (i + 1), by omega, rfl, hlt, h⟩, fun x H' y => ?_⟩
      have s2 : Sta X.K cl σ H' P ρ ([.val x ds[i] .sh] ++ M) := by
        obtain ⟨Le, a, b⟩ := s
        exact Sta.ofFront (N := [.val x ds[i] .sh]) a (g2 x H' y _ b)
      rw [List.drop_eq_getElem_cons hlt] at p
      simp only [forLoop, forBody] at p
      cases eb : bindTg js tp ds[i] ρ with
      | none =>
        rw [eb] at p
        exact p.elim
      | some ρ2 =>
        rw [eb] at p
        refine hg.ok s2 eb fun σ' s3 hke hl => ⟨ρ2, P, M, k, s3, hk.other hio hke, ?_⟩
        dsimp only at p
        cases ef : fb ρ2 with
        | nx ρ3 =>
          rw [ef] at p
          exact fun σ H s hk => ⟨ρ3, s, hk, p⟩
        | ct ρ3 =>
          rw [ef] at p
          exact fun σ H s hk => ⟨ρ3, s, hk, p⟩
        | br ρ3 =>
          rw [ef] at p
          exact p
        | rt d o ρ3 =>
          rw [ef] at p
          exact p
        | exc x ρ3 =>
          rw [ef] at p
          exact p
        | stuck =>
          rw [ef] at p
          exact p
    · left
      have ei : i = ds.length := by omega
      subst ei
      refine ⟨h1, ?_⟩
      rw [List.drop_length] at p
      exact p σ H s hk⟩
/-! ranges -/
theorem itr_ok {K : PySem.W.Frag} {P : Hp} (lo hi : Int) : ItOk K cl P (Itr lo (hi - lo).toNat) (rangeD lo hi) := fun H ex => by
  have hl : (rangeD lo hi).length = (hi - lo).toNat := by simp [rangeD]
  refine ⟨by rw [hl]; exact Nat.le_refl _, fun i d hd => ?_⟩
  have hi' : i < (hi - lo).toNat := by
    rw [← hl]
    exact (List.getElem?_eq_some_iff.mp hd).1
  have ed : d = .int (lo + i) := by
    simp [rangeD, hi'] at hd
    exact hd.symm
  subst ed
  refine ⟨hi', fun x H' ⟨e1, e2⟩ L g => ?_⟩
  subst e1
  subst e2
  exact g.flat (.int _)
theorem si_rng1 {tg a : Expr} {p pp : Pos} {hs : List (Option Nat)} (hg : Gl X "range") (hm : X.mg "range" = none) (ha : PE X a (tE X.K cl W fa)) (hst : starEach [a] X.env = [(false, eval a X.env)]) :
    PI X tg (.Call (.Name "range" p) [a] [] pp) (tI X.K cl W fun ρ => (fa ρ).bind fun x ρ1 => (match x.1 with
    | .int n => if inRange n then .ok (rangeD 0 n) ρ1 else .stuck
    | _ => .stuck)) :=
  PI.of (pi_range1 hg hm (pa_cons ha pa_nil (by rw [hst] <;> rfl)) hst) fun σ H Rk ⟨ρ, R, M, s, p⟩ => ⟨ρ, R, M, s, (PostI.bindF [] p).mono fun v H1 ⟨x, N, ρ1, hr, s1, p1⟩ => by
    subst hr
    obtain ⟨Le, he, g⟩ := Sta.front (N := [.val v x.1 x.2]) s1
    obtain ⟨d, o⟩ := x
    cases d with
    | int n =>
      have ev := int_of g
      subst ev
      have p1 : PostI X.K cl R M W σ Rk (if inRange n then .ok (rangeD 0 n) ρ1 else .stuck) := p1
      by_cases hr : inRange n = true
      · rw [if_pos hr] at p1
        simp only [inRange, Bool.and_eq_true, decide_eq_true_eq] at hr
        refine ⟨n, rfl, by omega, by omega, p1 _ H1 R (Ex.refl R) ?_ s1.dropL⟩
        have := itr_ok (K := X.K) (cl := cl) (P := R) 0 n
        rw [Int.sub_zero] at this
        exact this
      · rw [if_neg hr] at p1
        exact p1.elim
    | _ => exact p1.elim⟩
theorem si_rng2 {tg a b : Expr} {p pp : Pos} (hg : Gl X "range") (hm : X.mg "range" = none) (ha : PE X a (tE X.K cl W fa)) (hb : PE X b (tE X.K cl W fb)) (hst : starEach [a, b] X.env = [(false, eval a X.env), (false, eval b X.env)]) (hst2 : starEach [b] X.env = [(false, eval b X.env)]) :
    PI X tg (.Call (.Name "range" p) [a, b] [] pp) (tI X.K cl W fun ρ => (fa ρ).bind fun x ρ1 => (fb ρ1).bind fun y ρ2 => (match x.1, y.1 with
    | .int i, .int j => if inRange i && inRange j then .ok (rangeD i j) ρ2 else .stuck
    | _, _ => .stuck)) :=
  PI.of (pi_range2 hg hm (pa_cons ha (pa_cons hb pa_nil (by rw [hst2] <;> rfl)) (by rw [hst, hst2])) hst hst2) fun σ H Rk ⟨ρ, R, M, s, p⟩ => ⟨ρ, R, M, s, (PostI.bindF [] p).mono fun v H1 ⟨x, N, ρ1, hr, s1, p1⟩ => ⟨ρ1, R, N ++ M, s1, (PostI.bindF N p1).mono fun w H2 ⟨y, N2, ρ2, hr2, s2, p2⟩ => by
    subst hr
    subst hr2
    obtain ⟨Le, he, g⟩ := Sta.front (N := [.val w y.1 y.2, .val v x.1 x.2]) s2
    obtain ⟨d, o⟩ := x
    obtain ⟨d2, o2⟩ := y
    cases d with
    | int i =>
      cases d2 with
      | int j =>
        have ev := int_of g
        have ev2 := int_of g.tail
        subst ev
        subst ev2
        have p2 : PostI X.K cl R M W σ Rk (if inRange i && inRange j then .ok (rangeD i j) ρ2 else .stuck) := p2
        by_cases hr : (inRange i && inRange j) = true
        · rw [if_pos hr] at p2
          simp only [inRange, Bool.and_eq_true, decide_eq_true_eq] at hr
          exact ⟨i, j, rfl, ⟨by omega, by omega, by omega, by omega⟩, p2 _ H2 R (Ex.refl R) (itr_ok i j) s2.dropL.dropL⟩
        · rw [if_neg hr] at p2
          exact p2.elim
      | _ => exact p2.elim
    | _ => exact p2.elim⟩⟩
end
end FB
namespace FB
open PySem L2 PyProof.Rows
def W0 : WX := fun _ _ _ _ => False
def tcd (K : PySem.W.Frag) (cl : Nat → Addr) : Option (FEnv → Ev Bool) → TT
  | some c => tT K cl W0 c
  | none => tYes
theorem wipe_other {σ σ2 : L2.St} {js : List Nat} (hl : σ2.length = σ.length) (k : ∀ i, js.contains i = false → σ2[i]? = (wipe σ js)[i]?) : wipe σ2 js = wipe σ js := by
  apply List.ext_getElem?
  intro i
  by_cases hi : i ∈ js
  · have z : ∀ τ : L2.St, (wipe τ js)[i]? = if i < τ.length then some none else none := fun τ => by
      by_cases hlt : i < τ.length
      · rw [if_pos hlt]
        have h1 : i < (wipe τ js).length := by rw [wipe_length]; exact hlt
        cases e : (wipe τ js)[i]? with
        | none => rw [List.getElem?_eq_none_iff] at e; omega
        | some y =>
          cases y with
          | none => rfl
          | some v => exact absurd hi (wipe_some e).2
      · rw [if_neg hlt, List.getElem?_eq_none (by rw [wipe_length]; omega)]
    rw [z, z, hl]
  · rw [wipe_out hi, k i (by simpa using hi)]
theorem wipe_agree {σ : L2.St} {js : List Nat} : ∀ i, js.contains i = false → (wipe σ js)[i]? = σ[i]? := fun i hi => wipe_out (by simpa using hi)
theorem shs_snoc : ∀ {vs : List V} {ds : List D} {v : V} {d : D}, vs.length = ds.length → shs (vs ++ [v]) (ds ++ [d]) = shs vs ds ++ [.val v d .sh]
  | [], [], _, _, _ => rfl
  | x :: vs, y :: ds, v, d, h => by
    show Item.val x y .sh :: shs (vs ++ [v]) (ds ++ [d]) = Item.val x y .sh :: (shs vs ds ++ [.val v d .sh])
    rw [shs_snoc (Nat.succ.inj h)]
section
variable {X : Cx} {cl : Nat → Addr} {W : WX} {io : List Nat} {pos pos' : Pos} {K : PySem.W.Frag}
def lcF (js : List Nat) (tp : Bool) (fi : FEnv → Ev (List D)) (fc : Option (FEnv → Ev Bool)) (fe : FEnv → Ev DO) : FEnv → Ev DO := fun ρ => (fi ρ).bind fun ds ρ1 => if ds.length ≤ 1000000 then
      (match lcLoop (lcBody js tp fc fe) ds (wipeE ρ1 js) with
        | .ok r ρ5 => .ok (.lst r, .root) ρ5
        | _ => .stuck) else .stuck
theorem Post.toI {R : Hp} {M : List Item} {σ : L2.St} {Rk : L2.It → Hp → Prop} {Q : VK} {x : Ev (List D)} {g : List D → FEnv → Ev DO} (p : Post K cl repV R M W σ Q (x.bind g))
    (h : ∀ ds ρ1, x = .ok ds ρ1 → Post K cl repV R M W σ Q (g ds ρ1) → ∀ J H' P, Ex R P → ItOk K cl P J ds → Sta K cl σ H' P ρ1 M → Rk J H') : PostI K cl R M W σ Rk x := by
  cases x with
  | ok a ρ1 => exact h a ρ1 rfl p
  | exc x ρ1 => exact p
  | stuck => exact p
/-- what a turn adds -/
theorem lc_add {σ2 σ : L2.St} {js : List Nat} {H4 P : Hp} {ρ4 : FEnv} {M : List Item} {Da : Addr} {acc : List V} {dacc : List D} {y : V} {d : D} {o : O} (hacc : acc.length = dacc.length) (hl : σ2.length = σ.length) (k : ∀ i, js.contains i = false → σ2[i]? = (wipe σ js)[i]?)
    (s : Sta K cl σ2 H4 P ρ4 ([.val y d o] ++ ([.cell Da (.lst acc)] ++ (shs acc dacc ++ M)))) : H4 Da = some (.lst acc) ∧ Sta K cl (wipe σ js) (upd H4 Da (.lst (acc ++ [y]))) P (wipeE ρ4 js) ([.cell Da (.lst (acc ++ [y]))] ++ (shs (acc ++ [y]) (dacc ++ [d]) ++ M)) := by
  have s1 : Sta K cl σ2 H4 P (wipeE ρ4 js) ([.cell Da (.lst acc)] ++ (shs acc dacc ++ ([.val y d .sh] ++ M))) := by
    have s0 : Sta K cl σ2 H4 P ρ4 ([.val y d .sh] ++ ([.cell Da (.lst acc)] ++ (shs acc dacc ++ M))) := Sta.item (N := [.val y d o]) (N' := [.val y d .sh]) s fun L g => g.share
    refine Sta.perm (s0.wiped js) ?_
    refine (List.Perm.swap _ _ _).trans (List.Perm.cons _ ?_)
    exact (List.perm_middle (a := Item.val y d .sh) (l₁ := shs acc dacc) (l₂ := M)).symm
  obtain ⟨Le, he, g⟩ := Sta.front (N := [.cell Da (.lst acc)]) s1
  refine ⟨g.cellAt, ?_⟩
  have s2 : Sta K cl σ2 (upd H4 Da (.lst (acc ++ [y]))) P (wipeE ρ4 js) ([.cell Da (.lst (acc ++ [y]))] ++ (shs acc dacc ++ ([.val y d .sh] ++ M))) := Sta.ofFront he g.write
  rw [shs_snoc hacc, List.append_assoc]
  exact s2.other (by rw [wipe_length, hl]) fun i hi => (k i hi).symm
theorem lc_read {js : List Nat} {tp : Bool} {g : TG} {fi : FEnv → Ev (List D)} {fc : Option (FEnv → Ev Bool)} {fe : FEnv → Ev DO} {σ : L2.St} {H : Hp} {Q : VK} (hok : TgR K cl js tp g) (h : Rd1 K cl repV W (lcF js tp fi fc fe) σ H Q) :
    tLc (tI K cl W fi) g (tcd K cl fc) (tE K cl W0 fe) js σ H Q := by
  obtain ⟨ρ, R, M, s, p⟩ := h
  refine ⟨ρ, R, M, s, p.toI fun ds ρ1 _ p J H1 P ex it s1 Da nD => ?_⟩
  by_cases hlen : ds.length ≤ 1000000
  · rw [if_pos hlen] at p
    cases el : lcLoop (lcBody js tp fc fe) ds (wipeE ρ1 js) with
    | exc x ρ5 => rw [el] at p; exact p.elim
    | stuck => rw [el] at p; exact p.elim
    | ok total ρ5 =>
      rw [el] at p
      dsimp only at p
      let Inv' : Nat → Hp → Prop := fun i H => ∃ ρ acc dacc rest, acc.length = dacc.length ∧ Sta K cl (wipe σ js) H P (wipeE ρ js) ([.cell Da (.lst acc)] ++ (shs acc dacc ++ M)) ∧ lcLoop (lcBody js tp fc fe) (ds.drop i) (wipeE ρ js) = .ok rest ρ5 ∧ dacc ++ rest = total ∧ dacc.length ≤ i
      have inv0 : Inv' 0 (upd H1 Da (.lst [])) := by
        refine ⟨ρ1, [], [], total, rfl, ?_, el, rfl, Nat.le_refl _⟩
        obtain ⟨Le, a, b⟩ := (s1.wiped js).other (σ' := wipe σ js) (by rw [wipe_length]) wipe_agree
        exact Sta.ofFront (N := [.cell Da (.lst [])]) a (b.alloc nD)
      refine ⟨fun i m H => m = ds.length - i ∧ i ≤ ds.length ∧ Inv' i H, ⟨_, rfl, Nat.zero_le _, inv0⟩, ?_⟩
      rintro i m H ⟨rfl, hi, ρ, acc, dacc, rest, hacc, s, e, et, hd⟩
      obtain ⟨h1, h2⟩ := it H s.raw
      by_cases hlt : i < ds.length
      · right
        obtain ⟨g1, g2⟩ := h2 i _ (List.getElem?_eq_getElem hlt)
        refine ⟨g1, Inv' (i + 1), fun H' h => ⟨ds.length - (i + 1), by omega, rfl, hlt, h⟩, fun x H' y => ?_⟩
        have s2 : Sta K cl (wipe σ js) H' P (wipeE ρ js) ([.val x ds[i] .sh] ++ ([.cell Da (.lst acc)] ++ (shs acc dacc ++ M))) := by
          obtain ⟨Le, a, b⟩ := s
          exact Sta.ofFront (N := [.val x ds[i] .sh]) a (g2 x H' y _ b)
        rw [List.drop_eq_getElem_cons hlt] at e
        simp only [lcLoop] at e
        cases eb : bindTg js tp ds[i] (wipeE ρ js) with
        | none =>
          simp only [lcBody, eb] at e
          cases e
        | some ρ2 =>
          simp only [lcBody, eb] at e
          refine hok s2 eb fun σ' s3 hke hl => ⟨wipe_other (by rw [hl, wipe_length]) hke, ?_⟩
          have hl' : σ'.length = σ.length := by rw [hl, wipe_length]
          have hsz : ∀ {n : Nat}, n ≤ i → n < sizeLine := fun hn => by rw [sizeLine_eq]; omega
          have fin : ∀ {ρ3 : FEnv} {H3 : Hp} {rest' : List D} {x4 : DO} {ρ4 : FEnv}, Sta K cl σ' H3 P ρ3 ([.cell Da (.lst acc)] ++ (shs acc dacc ++ M)) → fe ρ3 = .ok x4 ρ4 → lcLoop (lcBody js tp fc fe) (ds.drop (i + 1)) (wipeE ρ4 js) = .ok rest' ρ5 → dacc ++ (x4.1 :: rest') = total →
              tE K cl W0 fe σ' H3 fun y H4 => ∃ acc, H4 Da = some (.lst acc) ∧ acc.length < sizeLine ∧ Inv' (i + 1) (upd H4 Da (.lst (acc ++ [y]))) := fun {ρ3 H3 rest' x4 ρ4} s3 ef e2 e3 => by
            refine ⟨ρ3, P, _, s3, ?_⟩
            rw [ef]
            rintro y H4 N rfl s4
            obtain ⟨c1, c2⟩ := lc_add hacc hl' hke s4
            exact ⟨acc, c1, hsz (by omega), ρ4, acc ++ [y], dacc ++ [x4.1], rest', by rw [List.length_append, List.length_append, hacc]; rfl, c2, e2, by rw [List.append_assoc]; exact e3, by rw [List.length_append]; exact Nat.succ_le_succ hd⟩
          cases fc with
          | none =>
            unfold tcd tYes
            dsimp only
            rw [if_pos rfl]
            dsimp only at e
            cases ef : fe ρ2 with
            | ok x4 ρ4 =>
              rw [ef] at e
              simp only [Ev.bind] at e
              cases e2 : lcLoop (lcBody js tp none fe) (ds.drop (i + 1)) (wipeE ρ4 js) with
              | ok rest' ρ6 =>
                rw [e2] at e
                cases e
                exact fin s3 ef e2 et
              | exc _ _ => rw [e2] at e; cases e
              | stuck => rw [e2] at e; cases e
            | exc _ _ => rw [ef] at e; cases e
            | stuck => rw [ef] at e; cases e
          | some c =>
            dsimp only at e
            refine ⟨ρ2, P, _, s3, ?_⟩
            cases ec : c ρ2 with
            | ok bb ρ3 =>
              rw [ec] at e
              simp only [Ev.bind] at e
              rintro b H3 N ⟨rfl, rfl⟩ s4
              cases b with
              | true =>
                rw [if_pos rfl]
                rw [if_pos rfl] at e
                cases ef : fe ρ3 with
                | ok x4 ρ4 =>
                  rw [ef] at e
                  dsimp only at e
                  cases e2 : lcLoop (lcBody js tp (some c) fe) (ds.drop (i + 1)) (wipeE ρ4 js) with
                  | ok rest' ρ6 =>
                    rw [e2] at e
                    cases e
                    exact fin s4 ef e2 et
                  | exc _ _ => rw [e2] at e; cases e
                  | stuck => rw [e2] at e; cases e
                | exc _ _ => rw [ef] at e; cases e
                | stuck => rw [ef] at e; cases e
              | false =>
                rw [if_neg Bool.false_ne_true]
                rw [if_neg Bool.false_ne_true] at e
                exact ⟨ρ3, acc, dacc, rest, hacc, (Sta.wiped s4 js).other (by rw [wipe_length, hl']) fun i hi => (hke i hi).symm, e, et, by omega⟩
            | exc _ _ => rw [ec] at e; cases e
            | stuck => rw [ec] at e; cases e
      · left
        have ei : i = ds.length := by omega
        subst ei
        refine ⟨h1, ?_⟩
        rw [List.drop_length] at e
        simp only [lcLoop] at e
        cases e
        rw [List.append_nil] at et
        subst et
        have s2 : Sta K cl σ H P (wipeE ρ js) ([.cell Da (.lst acc)] ++ (shs acc dacc ++ M)) := s.other (by rw [wipe_length]) fun i hi => (wipe_agree i hi).symm
        refine p (.ref Da) H _ rfl (Sta.mono ex ?_)
        exact Sta.item (N := .cell Da (.lst acc) :: shs acc dacc) (N' := [.val (.ref Da) (.lst dacc) .root]) s2 fun L g => Good.packLst (vs := acc) g hacc
  · rw [if_neg hlen] at p
    exact p.elim
variable {elt tg iter : Expr} {ifs : List Expr} {scope : Scope} {own : List (Str × Nat)} {js : List Nat} {tp : Bool} {g : TG} {fi : FEnv → Ev (List D)} {fc : Option (FEnv → Ev Bool)} {fe : FEnv → Ev DO}
abbrev Xb (X : Cx) (scope : Scope) (s : Shared) (H : Hp) (C : Addr) (cl' : List (Str × Addr)) (fp : List Addr) : Cx := X.blk s H scope (compEnvC scope cl' C X.env) fp
theorem se_lc (hc : X.calm = true) (hN : X.N.Nodup) (hi : PI X tg iter (tI X.K cl W fi)) (ok : BlkOk X.N X.env.scope scope own) (hj : own.map (·.2) = js) (hok : TgR X.K cl js tp g)
    (hg : ∀ (s : Shared) (H : Hp) (C : Addr) (cl' : List (Str × Addr)) (fp : List Addr), PG (Xb X scope s H C cl' fp) tg g) (ht : ∀ (s : Shared) (H : Hp) (C : Addr) (cl' : List (Str × Addr)) (fp : List Addr), PTs (Xb X scope s H C cl' fp) ifs (tcd X.K cl fc))
    (he : ∀ (s : Shared) (H : Hp) (C : Addr) (cl' : List (Str × Addr)) (fp : List Addr), PE (Xb X scope s H C cl' fp) elt (tE X.K cl W0 fe)) (hs : ∀ x, foldedSetIterable iter X.env x = pure x) :
    PE X (.ListComp elt [⟨tg, iter, ifs, 0⟩] scope pos) (tE X.K cl W (lcF js tp fi fc fe)) := by
  subst hj
  exact PE.of (pe_lc hc hN hi ok hg ht he hs) fun σ H Q h => lc_read hok h
theorem ss_asgLc {i : Nat} {y : Str} {py spos : Pos} (hc : X.calm = true) (hN : X.N.Nodup) (hy : X.N[i]? = some y) (hyl : X.env.scope.names.lookup y = some .local)
    (hsw : swapsWith (.ListComp elt [⟨tg, iter, ifs, 0⟩] scope pos) (some (.Name y py)) spos.line X.env = pure true) (hi : PI X tg iter (tI X.K cl W fi)) (ok : BlkOk X.N X.env.scope scope own) (hj : own.map (·.2) = js) (hok : TgR X.K cl js tp g)
    (hg : ∀ (s : Shared) (H : Hp) (C : Addr) (cl' : List (Str × Addr)) (fp : List Addr), PG (Xb X scope s H C cl' fp) tg g) (ht : ∀ (s : Shared) (H : Hp) (C : Addr) (cl' : List (Str × Addr)) (fp : List Addr), PTs (Xb X scope s H C cl' fp) ifs (tcd X.K cl fc))
    (he : ∀ (s : Shared) (H : Hp) (C : Addr) (cl' : List (Str × Addr)) (fp : List Addr), PE (Xb X scope s H C cl' fp) elt (tE X.K cl W0 fe)) (hs : ∀ x, foldedSetIterable iter X.env x = pure x) (hio : io.contains i = false) :
    PS X (.Assign [.Name y py] (.ListComp elt [⟨tg, iter, ifs, 0⟩] scope pos) spos) (ttS X cl W io fun ρ => (lcF js tp fi fc fe ρ).fl fun x ρ1 => .nx (ρ1.set i (some x))) := by
  subst hj
  refine PS.of (ps_setLc hc hN hy hyl hsw hi ok hg ht he hs) fun D σ H ⟨ρ, R, M, k, s, hk, p⟩ => ?_
  refine lc_read (Q := fun x H1 => gName i x σ H1 D.nx) hok ⟨ρ, R, M, s, (p.bindF hk).mono fun v H1 ⟨x, N, ρ1, hr, s1, p1⟩ => ?_⟩
  subst hr
  exact p1 _ _ s1.put (hk.set hio)
end
end FB
namespace FB
open PySem L2 PyProof.Rows
section
variable {K : PySem.W.Frag} {cl : Nat → Addr} {R H : Hp} {v : V} {ds : List D} {os : List O} {M L : List Item}
theorem Good.unpackLstN (g : Good K cl R H (.val v (.lst ds) (.node os) :: M)) : ∃ a vs, v = .ref a ∧ vs.length = ds.length ∧ ds.length = os.length ∧ Good K cl R H (.cell a (.lst vs) :: (vals vs ds os ++ M)) := by
  obtain ⟨P, f, r1, r2, c, n, e⟩ := g
  cases e with
  | val h r =>
    cases h with
    | lstN h q => exact ⟨_, _, rfl, q.length.1, q.length.2, P, _, r1, r2, c, n, .cell h rfl ((Its.ofRos q).append r)⟩
theorem Good.unpackTupN (g : Good K cl R H (.val v (.tup ds) (.node os) :: M)) : ∃ a vs, v = .ref a ∧ vs.length = ds.length ∧ ds.length = os.length ∧ Good K cl R H (.cell a (.tup vs) :: (vals vs ds os ++ M)) := by
  obtain ⟨P, f, r1, r2, c, n, e⟩ := g
  cases e with
  | val h r =>
    cases h with
    | tupN h q => exact ⟨_, _, rfl, q.length.1, q.length.2, P, _, r1, r2, c, n, .cell h rfl ((Its.ofRos q).append r)⟩
theorem Good.unpackObjN {c : Nat} {fs : List Str} (g : Good K cl R H (.val v (.obj c fs ds) (.node os) :: M)) : ∃ a dx vs, v = .ref a ∧ fs.length = vs.length ∧ vs.length = ds.length ∧ ds.length = os.length ∧ Good K cl R H (.cell a (.ins (cl c) dx (fs.zip vs)) :: (vals vs ds os ++ M)) := by
  obtain ⟨P, f, r1, r2, c, n, e⟩ := g
  cases e with
  | val h r =>
    cases h with
    | objN h l q => exact ⟨_, _, _, rfl, l, q.length.1, q.length.2, P, _, r1, r2, c, n, .cell h rfl ((Its.ofRos q).append r)⟩
theorem Good.unpackObj {c : Nat} {fs : List Str} (g : Good K cl R H (.val v (.obj c fs ds) .root :: M)) : ∃ a dx vs, v = .ref a ∧ fs.length = vs.length ∧ vs.length = ds.length ∧ Good K cl R H (.cell a (.ins (cl c) dx (fs.zip vs)) :: (shs vs ds ++ M)) := by
  obtain ⟨P, f, r1, r2, c, n, e⟩ := g
  cases e with
  | val h r =>
    cases h with
    | objR h l q => exact ⟨_, _, _, rfl, l, q.length, P, _, r1, r2, c, n, .cell h rfl (Its.append (f := []) (Its.ofRss q) r)⟩
theorem Good.packObjN {a dx : Addr} {c : Nat} {fs : List Str} {vs : List V} (g : Good K cl R H (.cell a (.ins (cl c) dx (fs.zip vs)) :: (vals vs ds os ++ M))) (hk : fs.length = vs.length) (h1 : vs.length = ds.length) (h2 : ds.length = os.length) : Good K cl R H (.val (.ref a) (.obj c fs ds) (.node os) :: M) := by
  obtain ⟨P, f, r1, r2, c, n, e⟩ := g
  cases e with
  | cell h _ r =>
    obtain ⟨f1, f2, rfl, e1, e2⟩ := r.split
    exact ⟨P, _, r1, r2, c, n, by rw [← List.cons_append]; exact .val (.objN h hk (Its.toRos h1 h2 e1)) e2⟩
theorem vals_split : ∀ {vs : List V} {ds : List D} {os : List O} (n : Nat) {d : D} {o : O}, vs.length = ds.length → ds[n]? = some d → os[n]? = some o →
    ∃ v A B, vs[n]? = some v ∧ vals vs ds os = A ++ .val v d o :: B ∧ ∀ d' o', vals vs (ds.set n d') (os.set n o') = A ++ .val v d' o' :: B
  | v :: vs, d :: ds, o :: os, 0, _, _, _, h1, h2 => by
    simp at h1 h2
    subst h1; subst h2
    exact ⟨v, [], vals vs ds os, rfl, rfl, fun _ _ => rfl⟩
  | v :: vs, d :: ds, o :: os, n + 1, d', o', hl, h1, h2 => by
    obtain ⟨w, A, B, e1, e2, e3⟩ := vals_split (vs := vs) n (Nat.succ.inj hl) (by simpa using h1) (by simpa using h2)
    refine ⟨w, .val v d o :: A, B, by simpa using e1, ?_, fun d'' o'' => ?_⟩
    · show Item.val v d o :: vals vs ds os = _
      rw [e2]
      rfl
    · show Item.val v d o :: vals vs (ds.set n d'') (os.set n o'') = _
      rw [e3]
      rfl
  | [], [], _, _, _, _, _, h1, _ => by simp at h1
  | [], _ :: _, _, _, _, _, hl, _, _ => by cases hl
  | _ :: _, [], _, _, _, _, hl, _, _ => by cases hl
  | _ :: _, _ :: _, [], _, _, _, _, _, h2 => by simp at h2
/-- the value at a path -/
def PathV (K : PySem.W.Frag) (cl : Nat → Addr) (att : Nat → Str → Bool) (H : Hp) : List PStep → V → V → Prop
  | [], v, w => v = w
  | .idx n :: p, v, w => ∃ a xs u, v = .ref a ∧ (SqL K H a xs ∨ SqT K H a xs) ∧ xs[n]? = some u ∧ PathV K cl att H p u w
  | .fld f :: p, v, w => ∃ a c dx fs u, v = .ref a ∧ H a = some (.ins (cl c) dx fs) ∧ att c f = true ∧ fs.lookup f = some u ∧ PathV K cl att H p u w
theorem PathV.snoc {att : Nat → Str → Bool} {s : PStep} {u : V} : ∀ {p : List PStep} {v : V}, PathV K cl att H (p ++ [s]) v u → ∃ w, PathV K cl att H p v w ∧ PathV K cl att H [s] w u
  | [], v, h => ⟨v, rfl, h⟩
  | .idx n :: p, v, ⟨a, xs, x, e1, e2, e3, h⟩ => let ⟨w, h1, h2⟩ := h.snoc; ⟨w, ⟨a, xs, x, e1, e2, e3, h1⟩, h2⟩
  | .fld f :: p, v, ⟨a, c, dx, fs, x, e1, e2, e3, e4, h⟩ => let ⟨w, h1, h2⟩ := h.snoc; ⟨w, ⟨a, c, dx, fs, x, e1, e2, e3, e4, h1⟩, h2⟩
theorem zip_find : ∀ {fs : List Str} {vs : List V} {ds : List D} {f : Str} {d : D} {n : Nat}, fs.length = vs.length → vs.length = ds.length → lookF fs ds f = some d → fs.findIdx? (· == f) = some n → ∃ v, vs[n]? = some v ∧ ds[n]? = some d ∧ (fs.zip vs).lookup f = some v
  | k :: fs, v :: vs, d :: ds, f, d', n, h1, h2, h3, h4 => by
    by_cases e : f = k
    · subst e
      simp [List.findIdx?_cons] at h4
      subst h4
      simp [lookF] at h3
      subst h3
      exact ⟨v, rfl, rfl, by simp⟩
    · have e2 : (k == f) = false := by simpa using fun z => e z.symm
      have e3 : (f == k) = false := by simpa using e
      simp only [List.findIdx?_cons, e2, Option.map_eq_some_iff] at h4
      simp only [lookF, if_neg e] at h3
      simp at h4
      obtain ⟨m, h4, rfl⟩ := h4
      obtain ⟨w, a1, a2, a3⟩ := zip_find (Nat.succ.inj h1) (Nat.succ.inj h2) h3 h4
      refine ⟨w, by simpa using a1, by simpa using a2, ?_⟩
      rw [List.zip_cons_cons, List.lookup_cons, e3]
      exact a3
  | [], _, _, _, _, _, _, _, h3, _ => by simp [lookF] at h3
  | _ :: _, [], _, _, _, _, h1, _, _, _ => by cases h1
  | _ :: _, _ :: _, [], _, _, _, _, h2, _, _ => by cases h2
theorem perm_mid {A B C : List Item} {x : Item} : (A ++ x :: B ++ C).Perm (x :: (A ++ B ++ C)) := by
  rw [List.append_assoc, List.append_assoc]
  exact List.perm_middle
theorem getAt_sh {att : Nat → Str → Bool} {d' : D} : ∀ (p : List PStep) {d : D}, getAt att p (d, .sh) ≠ some (d', .root)
  | [], d, e => by simp [getAt] at e
  | .idx n :: p, d, e => by
    cases d with
    | tup ds =>
      simp only [getAt] at e
      split at e
      · exact getAt_sh p e
      · cases e
    | lst ds =>
      simp only [getAt] at e
      split at e
      · exact getAt_sh p e
      · cases e
    | _ => cases e
  | .fld f :: p, d, e => by
    cases d with
    | obj c fs ds =>
      simp only [getAt] at e
      split at e
      · split at e
        · exact getAt_sh p e
        · cases e
      · cases e
    | _ => cases e
theorem Good.focus {att : Nat → Str → Bool} {d' : D} : ∀ (p : List PStep) {x : DO} {v : V} {L : List Item}, Good K cl R H (.val v x.1 x.2 :: L) → getAt att p x = some (d', .root) →
    ∃ w C, PathV K cl att H p v w ∧ Good K cl R H (.val w d' .root :: (C ++ L)) ∧ ∀ {H' R' : Hp} {d2 : D} {o2 : O} {y : DO} {L' : List Item}, setAt p x (d2, o2) = some y → Good K cl R' H' (.val w d2 o2 :: (C ++ L')) → Good K cl R' H' (.val v y.1 y.2 :: L')
  | [], x, v, L, g, e => by
    simp only [getAt] at e
    cases e
    refine ⟨v, [], rfl, g, fun {H' R' d2 o2 y L'} e g => ?_⟩
    simp only [setAt] at e
    cases e
    exact g
  | .idx n :: p, (d, o), v, L, g, e => by
    have step : ∀ {u : List V → HO} {k : List D → D} (hu : ∀ {H : Hp} {R : Hp} {M : List Item} {a : Addr} {vs : List V} {ds : List D} {os : List O}, Good K cl R H (.cell a (u vs) :: (vals vs ds os ++ M)) → vs.length = ds.length → ds.length = os.length → Good K cl R H (.val (.ref a) (k ds) (.node os) :: M))
        {a : Addr} {vs : List V} {ds : List D} {os : List O} (hq : SqL K H a vs ∨ SqT K H a vs) (hv : v = .ref a) (h1 : vs.length = ds.length) (h2 : ds.length = os.length) (g : Good K cl R H (.cell a (u vs) :: (vals vs ds os ++ L)))
        {d1 : D} {o1 : O} (e1 : ds[n]? = some d1) (e2 : os[n]? = some o1) (e : getAt att p (d1, o1) = some (d', .root)),
        ∃ w C, PathV K cl att H (.idx n :: p) v w ∧ Good K cl R H (.val w d' .root :: (C ++ L)) ∧ ∀ {H' R' : Hp} {d2 : D} {o2 : O} {z : DO} {L' : List Item}, setAt p (d1, o1) (d2, o2) = some z → Good K cl R' H' (.val w d2 o2 :: (C ++ L')) → Good K cl R' H' (.val v (k (ds.set n z.1)) (.node (os.set n z.2)) :: L') := by
      clear g e
      intro u k hu a vs ds os hq hv h1 h2 g d1 o1 e1 e2 e
      subst hv
      obtain ⟨v1, A, B, e3, e4, e5⟩ := vals_split (vs := vs) n h1 e1 e2
      rw [e4] at g
      have g1 : Good K cl R H (.val v1 d1 o1 :: (.cell a (u vs) :: (A ++ B ++ L))) := g.perm ((List.Perm.cons _ perm_mid).trans (.swap _ _ _))
      obtain ⟨w, C, p1, g2, k2⟩ := Good.focus p (x := (d1, o1)) g1 e
      have pm : ∀ L : List Item, (C ++ (.cell a (u vs) :: (A ++ B ++ L))).Perm ((.cell a (u vs) :: (A ++ B ++ C)) ++ L) := fun L => by
        refine List.perm_middle.trans (List.Perm.cons _ ?_)
        rw [← List.append_assoc]
        refine List.Perm.append_right L ?_
        exact List.perm_append_comm
      refine ⟨w, .cell a (u vs) :: (A ++ B ++ C), ⟨a, vs, v1, rfl, hq, e3, p1⟩, g2.perm (List.Perm.cons _ (pm L)), fun {H' R' d2 o2 z L'} es g => ?_⟩
      · have g3 := k2 (L' := .cell a (u vs) :: (A ++ B ++ L')) es (g.perm (List.Perm.cons _ (pm L').symm))
        refine hu (vs := vs) ?_ (by rw [List.length_set, h1]) (by rw [List.length_set, List.length_set, h2])
        rw [e5]
        exact g3.perm ((List.Perm.swap _ _ _).trans (List.Perm.cons _ perm_mid.symm))
    cases d with
    | tup ds =>
      cases o with
      | node os =>
        simp only [getAt] at e
        obtain ⟨a, vs, hv, h1, h2, g⟩ := g.unpackTupN
        cases e1 : ds[n]? with
        | none => rw [e1] at e; cases e
        | some d1 =>
          cases e2 : os[n]? with
          | none => rw [e1, e2] at e; cases e
          | some o1 =>
            rw [e1, e2] at e
            obtain ⟨w, C, q1, q2, q3⟩ := step (u := .tup) (k := .tup) (fun g h1 h2 => g.packTupN h1 h2) (.inr (SqT.of g.cellAt)) hv h1 h2 g e1 e2 e
            refine ⟨w, C, q1, q2, fun {H' R' d2 o2 y L'} e g => ?_⟩
            cases es : setAt p (d1, o1) (d2, o2) with
            | none => simp only [setAt, e1, e2, es] at e; cases e
            | some z =>
              simp only [setAt, e1, e2, es] at e
              cases e
              exact q3 es g
      | _ =>
        simp only [getAt] at e
        cases e1 : ds[n]? with
        | none => rw [e1] at e; cases e
        | some d1 =>
          rw [e1] at e
          exact absurd e (getAt_sh p)
    | lst ds =>
      cases o with
      | node os =>
        simp only [getAt] at e
        obtain ⟨a, vs, hv, h1, h2, g⟩ := g.unpackLstN
        cases e1 : ds[n]? with
        | none => rw [e1] at e; cases e
        | some d1 =>
          cases e2 : os[n]? with
          | none => rw [e1, e2] at e; cases e
          | some o1 =>
            rw [e1, e2] at e
            obtain ⟨w, C, q1, q2, q3⟩ := step (u := .lst) (k := .lst) (fun g h1 h2 => g.packLstN h1 h2) (.inl (SqL.of g.cellAt)) hv h1 h2 g e1 e2 e
            refine ⟨w, C, q1, q2, fun {H' R' d2 o2 y L'} e g => ?_⟩
            cases es : setAt p (d1, o1) (d2, o2) with
            | none => simp only [setAt, e1, e2, es] at e; cases e
            | some z =>
              simp only [setAt, e1, e2, es] at e
              cases e
              exact q3 es g
      | _ =>
        simp only [getAt] at e
        cases e1 : ds[n]? with
        | none => rw [e1] at e; cases e
        | some d1 =>
          rw [e1] at e
          exact absurd e (getAt_sh p)
    | _ => cases e
  | .fld f :: p, (d, o), v, L, g, e => by
    cases d with
    | obj c fs ds =>
      cases o with
      | node os =>
        simp only [getAt] at e
        split at e
        · rename_i ha
          obtain ⟨a, dx, vs, rfl, h0, h1, h2, g⟩ := g.unpackObjN
          cases e1 : lookF fs ds f with
          | none => rw [e1] at e; cases e
          | some d1 =>
            cases e0 : fs.findIdx? (· == f) with
            | none => rw [e1, e0] at e; cases e
            | some n =>
              rw [e1, e0] at e
              dsimp only at e
              cases e2 : os[n]? with
              | none => rw [e2] at e; cases e
              | some o1 =>
                rw [e2] at e
                dsimp only at e
                obtain ⟨v1, a1, a2, a3⟩ := zip_find h0 h1 e1 e0
                obtain ⟨v1', A, B, e3, e4, e5⟩ := vals_split (vs := vs) n h1 a2 e2
                rw [a1] at e3
                cases e3
                have hc := g.cellAt
                rw [e4] at g
                have g1 : Good K cl R H (.val v1 d1 o1 :: (.cell a (.ins (cl c) dx (fs.zip vs)) :: (A ++ B ++ L))) := g.perm ((List.Perm.cons _ perm_mid).trans (.swap _ _ _))
                obtain ⟨w, C, p1, g2, k2⟩ := Good.focus p (x := (d1, o1)) g1 e
                have pm : ∀ L : List Item, (C ++ (.cell a (.ins (cl c) dx (fs.zip vs)) :: (A ++ B ++ L))).Perm ((.cell a (.ins (cl c) dx (fs.zip vs)) :: (A ++ B ++ C)) ++ L) := fun L => by
                  refine List.perm_middle.trans (List.Perm.cons _ ?_)
                  rw [← List.append_assoc]
                  refine List.Perm.append_right L ?_
                  exact List.perm_append_comm
                refine ⟨w, .cell a (.ins (cl c) dx (fs.zip vs)) :: (A ++ B ++ C), ⟨a, c, dx, _, v1, rfl, hc, ha, a3, p1⟩, g2.perm (List.Perm.cons _ (pm L)), fun {H' R' d2 o2 y L'} e g => ?_⟩
                simp only [setAt, e1, e0, e2] at e
                cases es : setAt p (d1, o1) (d2, o2) with
                | none => rw [es] at e; cases e
                | some z =>
                  rw [es] at e
                  cases e
                  have g3 := k2 (L' := .cell a (.ins (cl c) dx (fs.zip vs)) :: (A ++ B ++ L')) es (g.perm (List.Perm.cons _ (pm L').symm))
                  refine Good.packObjN (dx := dx) (vs := vs) ?_ h0 (by rw [List.length_set, h1]) (by rw [List.length_set, List.length_set, h2])
                  rw [e5]
                  exact g3.perm ((List.Perm.swap _ _ _).trans (List.Perm.cons _ perm_mid.symm))
        · cases e
      | _ =>
        simp only [getAt] at e
        split at e
        · cases e1 : lookF fs ds f with
          | none => rw [e1] at e; cases e
          | some d1 =>
            rw [e1] at e
            exact absurd e (getAt_sh p)
        · cases e
    | _ => cases e
end
end FB
namespace FB
open PySem L2 PyProof.Rows
section
variable {X : Cx} {cl : Nat → Addr} {W : WX} {io : List Nat} {o e a b : Expr} {es : List Expr} {pos pos' apos cpos : Pos} {att : Nat → Str → Bool} {i : Nat} {p : List PStep}
/-- an expression that reads a path -/
def tP (K : PySem.W.Frag) (cl : Nat → Addr) (att : Nat → Str → Bool) (i : Nat) (p : List PStep) : TE := fun σ H Q => ∃ v w, σ[i]? = some (some v) ∧ PathV K cl att H p v w ∧ Q w H
theorem pp_name {x : Str} (hN : X.N[i]? = some x) (hv : Vis X.env.scope x) (hd : (x == ("__debug__" : Str)) = false) (hcd : (x == ("__classdict__" : Str)) = false) : PE X (.Name x pos) (tP X.K cl att i []) :=
  PE.of (pe_var hN hv hd hcd) fun σ H Q ⟨v, w, h1, h2, q⟩ => by
    cases (show v = w from h2)
    exact ⟨v, h1, q⟩
theorem ix_lt : IxR X (fun x y H Q => rIxL X.K x y H Q ∨ rIxT X.K x y H Q) := fun value slice pins s σ H x y v u Q I rx ry h hs => h.elim (fun h => ix_list value slice pins s σ H x y v u Q I rx ry h hs) (fun h => ix_tup value slice pins s σ H x y v u Q I rx ry h hs)
theorem atI_nat {α : Type} {xs : List α} {n : Nat} {x : α} (h : xs[n]? = some x) : atI xs (n : Int) = some x := by
  have hl : n < xs.length := (List.getElem?_eq_some_iff.mp h).1
  unfold atI ixN
  rw [if_pos (by omega)]
  simp [hl]
  exact (List.getElem?_eq_some_iff.mp h).2
theorem pp_idx {n : Nat} {m : Int} {k : Nat} {p2 : Pos} (hm : m = (n : Int)) (ha : PE X a (tP X.K cl att i p)) : PE X (.Subscript a (.Constant (.int m) k p2) pos) (tP X.K cl att i (p ++ [.idx n])) := by
  subst hm
  exact PE.of (pe_ix ix_lt ha pe_int fun _ _ => rfl) fun σ H Q ⟨v, u, h1, h2, q⟩ => by
    obtain ⟨w, h3, a, xs, u', h4, h5, h6, h7⟩ := h2.snoc
    have eu : u' = u := h7
    subst eu
    refine ⟨v, w, h1, h3, ?_⟩
    rcases h5 with h5 | h5
    · exact .inl ⟨a, xs, _, u', h4, rfl, h5, atI_nat h6, q⟩
    · exact .inr ⟨a, xs, _, u', h4, rfl, h5, atI_nat h6, q⟩
theorem pp_fld {f : Str} (ok : AttOk X.K cl att) (ha : PE X a (tP X.K cl att i p)) (hb : attributeBase a f X.env (eval a X.env) = eval a X.env) : PE X (.Attribute a f pos) (tP X.K cl att i (p ++ [.fld f])) :=
  PE.of (pe_fld ha hb) fun σ H Q ⟨v, u, h1, h2, q⟩ => by
    obtain ⟨w, h3, a, c, dx, fs, u', h4, h5, h6, h7, h8⟩ := h2.snoc
    have eu : u' = u := h8
    subst eu
    obtain ⟨k1, k2⟩ := ok c f h6
    exact ⟨v, w, h1, h3, a, cl c, dx, fs, u', h4, h5, k1, k2, h7, q⟩
theorem PathV.mono {K : PySem.W.Frag} {H H' : Hp} (ex : Ex H H') : ∀ {p : List PStep} {v w : V}, PathV K cl att H p v w → PathV K cl att H' p v w
  | [], _, _, h => h
  | .idx n :: p, v, w, ⟨a, xs, u, e1, e2, e3, h⟩ => ⟨a, xs, u, e1, e2.imp (ex_l ex) (ex_t ex), e3, h.mono ex⟩
  | .fld f :: p, v, w, ⟨a, c, dx, fs, u, e1, e2, e3, e4, h⟩ => ⟨a, c, dx, fs, u, e1, ex _ _ e2, e3, e4, h.mono ex⟩
/-- a built-in's method that changes its object, by data -/
def MuOk (X : Cx) (cl : Nat → Addr) (m : Mu) (T : String) (r : V → List V → Hp → VK → Prop) : Prop :=
  ∀ {R H : Hp} {w : V} {d : D} {ws : List V} {xs : List D} {L : List Item} {z d2 : D} {Q : VK}, ws.length = xs.length → Good X.K cl R H (.val w d .root :: (shs ws xs ++ L)) → muD m d xs = some (z, d2) →
    (∀ v H', Good X.K cl R H' (.val v z .sh :: .val w d2 .root :: L) → Q v H') → r w ws H Q
/-- the datum of a type whose methods are called -/
def tyD (T : String) : D → Bool
  | .lst _ => T == "list"
  | .dic _ _ => T == "dict"
  | _ => false
theorem tyV_root {K : PySem.W.Frag} {R H : Hp} {w : V} {d : D} {T : String} {L : List Item} (g : Good K cl R H (.val w d .root :: L)) (h : tyD T d = true) : tyV K T w H := by
  cases d with
  | lst ds =>
    obtain ⟨a, vs, rfl, _, g⟩ := g.unpackLst
    exact .inl ⟨eq_of_beq h, vs, SqL.of g.cellAt⟩
  | dic ks ds =>
    obtain ⟨a, vs, rfl, _, _, g⟩ := g.unpackDic
    exact .inr (.inr (.inl ⟨eq_of_beq h, .inl ⟨_, g.cellAt⟩⟩))
  | _ => cases h
theorem mu_append : MuOk X cl .append "list" rAppend := by
  intro R H w d ws xs L z d2 Q hl g hz q
  cases d with
  | lst ds =>
    match ws, xs, hl, hz with
    | [y], [d], _, hz =>
      simp only [muD] at hz
      split at hz
      · rename_i hlen
        cases hz
        have g : Good X.K cl R H (.val w (.lst ds) .root :: .val y d .sh :: L) := g
        obtain ⟨a, vs, rfl, hl, g⟩ := g.unpackLst
        refine ⟨a, vs, y, rfl, rfl, g.cellAt, by rw [hl, sizeLine_eq]; omega, q _ _ ?_⟩
        have g1 : Good X.K cl R (upd H a (.lst (vs ++ [y]))) (.cell a (.lst (vs ++ [y])) :: (shs (vs ++ [y]) (ds ++ [d]) ++ L)) := by
          rw [shs_snoc hl, List.append_assoc]
          exact g.write
        exact (g1.packLst (by rw [List.length_append, List.length_append, hl]; rfl)).flat .non
      · cases hz
    | [], [], _, hz => cases hz
    | _ :: _ :: _, _ :: _ :: _, _, hz => cases hz
  | _ => cases xs <;> cases hz
theorem mu_clearL {R H : Hp} {w : V} {ds : List D} {ws : List V} {xs : List D} {L : List Item} {z d2 : D} {Q : VK} (hl : ws.length = xs.length) (g : Good X.K cl R H (.val w (.lst ds) .root :: (shs ws xs ++ L))) (hz : muD .clear (.lst ds) xs = some (z, d2))
    (q : ∀ v H', Good X.K cl R H' (.val v z .sh :: .val w d2 .root :: L) → Q v H') : rClear w ws H Q := by
  match ws, xs, hl, hz with
  | [], [], _, hz =>
    simp only [muD] at hz
    cases hz
    have g : Good X.K cl R H (.val w (.lst ds) .root :: L) := g
    obtain ⟨a, vs, rfl, hl, g⟩ := g.unpackLst
    refine ⟨a, vs, rfl, rfl, g.cellAt, q _ _ ?_⟩
    have g1 : Good X.K cl R (upd H a (.lst [])) (.cell a (.lst []) :: (shs [] [] ++ L)) := by
      have g2 : Good X.K cl R H ((.cell a (.lst vs) :: L)) := by
        refine Good.tailA (L := shs vs ds) (g.perm ?_)
        exact (List.perm_middle).symm
      exact g2.write
    exact (Good.packLst (vs := []) (ds := []) g1 rfl).flat .non
  | _ :: _, _ :: _, _, hz => cases hz
theorem shs_app : ∀ {vs ys : List V} {ds es : List D}, vs.length = ds.length → shs (vs ++ ys) (ds ++ es) = shs vs ds ++ shs ys es
  | [], _, [], _, _ => rfl
  | v :: vs, ys, d :: ds, es, h => by
    show Item.val v d .sh :: shs (vs ++ ys) (ds ++ es) = Item.val v d .sh :: (shs vs ds ++ shs ys es)
    rw [shs_app (Nat.succ.inj h)]
theorem mu_extend : MuOk X cl .extend "list" rExtend := by
  intro R H w d ws xs L z d2 Q hl g hz q
  cases d with
  | lst ds =>
    match ws, xs, hl, hz with
    | [y], [d], _, hz =>
      cases d with
      | lst es =>
        simp only [muD] at hz
        split at hz
        · rename_i hlen
          cases hz
          have g : Good X.K cl R H (.val w (.lst ds) .root :: .val y (.lst es) .sh :: L) := g
          have gy : Good X.K cl R H (.val y (.lst es) .sh :: .val w (.lst ds) .root :: L) := g.perm (.swap _ _ _)
          obtain ⟨P, f, r1, r2, c, n, e⟩ := gy
          cases e with
          | val h1 r =>
            cases h1 with
            | sh h1 =>
              cases h1 with
              | @lst b ys _ eb rb =>
                have g3 : Good X.K cl P H (.val w (.lst ds) .root :: (shs ys es ++ L)) := by
                  have g4 : Good X.K cl P H (.val w (.lst ds) .root :: L) := ⟨P, _, Ex.refl P, r2, c, n, r⟩
                  exact (g4.rssP rb).perm (by exact List.perm_middle)
                obtain ⟨a, vs, rfl, hl, g5⟩ := g3.unpackLst
                refine ⟨a, b, vs, ys, rfl, rfl, g5.cellAt, r2 _ _ eb, by rw [hl, rb.length, sizeLine_eq]; omega, q _ _ (Good.mono r1 ?_)⟩
                have g6 : Good X.K cl P (upd H a (.lst (vs ++ ys))) (.cell a (.lst (vs ++ ys)) :: (shs (vs ++ ys) (ds ++ es) ++ L)) := by
                  have ea : shs (vs ++ ys) (ds ++ es) = shs vs ds ++ shs ys es := shs_app hl
                  rw [ea, List.append_assoc]
                  exact g5.write
                exact (g6.packLst (by rw [List.length_append, List.length_append, hl, rb.length])).flat .non
        · cases hz
      | _ => simp [muD] at hz
    | [], [], _, hz => simp [muD] at hz
    | _ :: _ :: _, _ :: _ :: _, _, hz => simp [muD] at hz
  | _ => simp [muD] at hz

variable {fs : FEnv → Ev (List DO)} {fy fn : FEnv → Ev DO} {hs : List (Option Nat)} {m : Mu} {T id : String} {r : V → List V → Hp → VK → Prop} {name : Str}
/-- the datum's method is one of the type's -/
def MuT (X : Cx) (cl : Nat → Addr) (m : Mu) (T : String) (r : V → List V → Hp → VK → Prop) : Prop :=
  ∀ {R H : Hp} {w : V} {d : D} {ws : List V} {xs : List D} {L : List Item} {z d2 : D} {Q : VK}, tyD T d = true → ws.length = xs.length → Good X.K cl R H (.val w d .root :: (shs ws xs ++ L)) → muD m d xs = some (z, d2) →
    (∀ v H', Good X.K cl R H' (.val v z .sh :: .val w d2 .root :: L) → Q v H') → r w ws H Q
theorem mt_app : MuT X cl .append "list" rAppend := fun _ hl g hz q => mu_append hl g hz q
theorem mt_ext : MuT X cl .extend "list" rExtend := fun _ hl g hz q => mu_extend hl g hz q
theorem mt_clr : MuT X cl .clear "list" rClear := by
  intro R H w d ws xs L z d2 Q ht hl g hz q
  cases d with
  | lst ds => exact mu_clearL hl g hz q
  | dic ks ds => exact absurd ht (by simp [tyD])
  | _ => cases ht
theorem mt_clrD : MuT X cl .clearD "dict" rDClear := by
  intro R H w d ws xs L z d2 Q ht hl g hz q
  cases d with
  | dic ks ds =>
    match ws, xs, hl, hz with
    | [], [], _, hz =>
      simp only [muD] at hz
      cases hz
      have g : Good X.K cl R H (.val w (.dic ks ds) .root :: L) := g
      obtain ⟨a, vs, rfl, hk, hl, g⟩ := g.unpackDic
      refine ⟨a, _, rfl, rfl, g.cellAt, q _ _ ?_⟩
      have g2 : Good X.K cl R H (.cell a (.dK (ks.zip vs)) :: L) := by
        refine Good.tailA (L := shs vs ds) (g.perm ?_)
        exact (List.perm_middle).symm
      have g1 : Good X.K cl R (upd H a (.dK [])) (.cell a (.dK []) :: (shs [] [] ++ L)) := g2.write
      exact (Good.packDic (ks := []) (vs := []) (ds := []) g1 rfl rfl).flat .non
    | [], _ :: _, hl, _ => cases hl
    | _ :: _, _ :: _, _, hz => simp [muD] at hz
  | lst ds => exact absurd ht (by simp [tyD])
  | _ => cases ht
theorem mt_pp : MuT X cl .pop "list" rPop := by
  intro R H w d ws xs L z d2 Q ht hl g hz q
  cases d with
  | lst ds =>
    match ws, xs, hl, hz with
    | [], [], _, hz =>
      simp only [muD] at hz
      have g : Good X.K cl R H (.val w (.lst ds) .root :: L) := g
      cases eL : ds.getLast? with
      | none => rw [eL] at hz; cases hz
      | some d =>
        rw [eL] at hz
        cases hz
        obtain ⟨a, vs, rfl, hl, g⟩ := g.unpackLst
        have ed : ds = ds.dropLast ++ [z] := by
          have h1 : ds ≠ [] := fun h => by rw [h] at eL; cases eL
          have h2 := List.dropLast_concat_getLast h1
          rw [List.getLast?_eq_some_getLast h1] at eL
          cases eL
          exact h2.symm
        have hne : vs ≠ [] := fun h => by
          rw [h] at hl
          rw [ed] at hl
          simp at hl
        have ev : vs = vs.dropLast ++ [vs.getLast hne] := (List.dropLast_concat_getLast hne).symm
        have hl2 : vs.dropLast.length = ds.dropLast.length := by rw [List.length_dropLast, List.length_dropLast, hl]
        refine ⟨a, vs, vs.getLast hne, rfl, rfl, g.cellAt, ?_, q _ _ ?_⟩
        · rw [← List.getLast?_eq_getElem?, List.getLast?_eq_some_getLast hne]
        · have g1 : Good X.K cl R (upd H a (.lst vs.dropLast)) (.cell a (.lst vs.dropLast) :: (shs vs.dropLast ds.dropLast ++ (.val (vs.getLast hne) z .sh :: L))) := by
            have es : shs vs ds = shs vs.dropLast ds.dropLast ++ [.val (vs.getLast hne) z .sh] := by
              conv => lhs; rw [ev, ed]
              exact shs_snoc hl2
            rw [es, List.append_assoc] at g
            exact g.write
          exact (g1.packLst hl2).perm (.swap _ _ _)
    | _ :: _, _ :: _, _, hz => simp [muD] at hz
  | dic ks ds => exact absurd ht (by simp [tyD])
  | _ => cases ht
theorem tyM_ty {d : D} (h : tyM m d = true) (hT : (T = "list" ∧ m ≠ .clearD) ∨ (T = "dict" ∧ m = .clearD)) : tyD T d = true := by
  rcases hT with ⟨rfl, hm⟩ | ⟨rfl, rfl⟩
  · cases d <;> cases m <;> first | rfl | (exact absurd rfl hm) | (simp [tyM] at h)
  · cases d <;> first | rfl | (simp [tyM] at h)
theorem mut_read {σ : L2.St} {H : Hp} {Q : VK} (hT : (T = "list" ∧ m ≠ .clearD) ∨ (T = "dict" ∧ m = .clearD)) (hm : MuT X cl m T r) (h : Rd1 X.K cl repV W (mutF att i p m fs) σ H Q) :
    tBM X.K T r (tP X.K cl att i p) (tA X.K cl W hs fs) σ H Q := by
  obtain ⟨ρ, R, M, s, q⟩ := h
  unfold mutF at q
  split at q
  · rename_i x e
    split at q
    · rename_i d eg
      split at q
      · rename_i ht
        obtain ⟨v, hv, s1⟩ := s.take (d := x.1) (o := x.2) e
        obtain ⟨Le, he, g⟩ := Sta.front (N := [.val v x.1 x.2]) s1
        obtain ⟨w, C, h1, g2, k⟩ := Good.focus p g eg
        have hty := tyM_ty ht hT
        refine ⟨v, w, hv, h1, tyV_root g2 hty, ?_⟩
        have s2 : Sta X.K cl σ H R (ρ.set i none) ((.val w d .root :: C) ++ M) := Sta.ofFront (N := .val w d .root :: C) he g2
        refine ⟨ρ.set i none, R, _, s2, (Post.bindF (.val w d .root :: C) q).mono fun ws H2 ⟨xs, N2, ρ1, ⟨hl, hl2, hN, hk⟩, s3, q2⟩ => ?_⟩
        subst hN
        obtain ⟨⟨z, d2⟩, hz, q3⟩ := q2.opt
        obtain ⟨x', hx', q4⟩ := q3.opt
        split at q4
        · rename_i e0
          obtain ⟨Le2, he2, g3⟩ := Sta.front (N := valsO ws xs) s3
          have g4 := g3.shareMany hl
          have g5 : Good X.K cl R H2 (.val w d .root :: (shs ws (xs.map (·.1)) ++ (C ++ (Le2 ++ M)))) := by
            refine g4.perm ?_
            have p1 : (Le2 ++ (Item.val w d .root :: C ++ M)).Perm (.val w d .root :: (C ++ (Le2 ++ M))) := by
              refine (List.perm_middle (a := Item.val w d .root) (l₁ := Le2) (l₂ := C ++ M)).trans (List.Perm.cons _ ?_)
              rw [← List.append_assoc, ← List.append_assoc]
              exact List.perm_append_comm.append_right _
            exact (p1.append_left _).trans List.perm_middle
          refine hm hty (by rw [hl, List.length_map]) g5 hz fun v' H' g6 => q4 v' H' _ rfl ?_
          have g7 : Good X.K cl R H' (.val w d2 .root :: (C ++ (.val v' z .sh :: (Le2 ++ M)))) := by
            refine g6.perm ((List.Perm.swap _ _ _).trans (List.Perm.cons _ ?_))
            exact List.perm_middle.symm
          have g8 := k hx' g7
          have s4 : Sta X.K cl σ H' R ρ1 (.val v x'.1 x'.2 :: ([.val v' z .sh] ++ M)) := Sta.ofFront (N := [.val v x'.1 x'.2, .val v' z .sh]) he2 g8
          exact s4.give e0 hv
        · exact q4.elim
      · exact q.elim
    · exact q.elim
  · exact q.elim
theorem se_mut (pa : PlainAttrs T) (slot : Slot T name id) (hty : typeOf (.builtin id) = pure (.type "method_descriptor")) (hm : MtR X id r) (hT : (T = "list" ∧ m ≠ .clearD) ∨ (T = "dict" ∧ m = .clearD)) (mt : MuT X cl m T r) (ho : PE X o (tP X.K cl att i p)) (ha : PA X (e :: es) (tA X.K cl W hs fs))
    (hbase : attributeBase o name X.env (eval o X.env) = eval o X.env)
    (hfew : ((backTo cpos (starEach (e :: es) X.env)).all (fun x => !x.1) && (backToKw cpos (keywordEach [] X.env)).all (fun x => x.1.isSome)
      && decide ((e :: es).length + ([] : List Keyword).length + (if ([] : List Keyword).isEmpty then 0 else 1) < 30)) = true)
    (hline : (apos.endLine == cpos.line) = true) (hst : starEach (e :: es) X.env = (false, eval e X.env) :: starEach es X.env) (hplain : (backTo cpos (starEach es X.env)).any (·.1) = false) :
    PE X (.Call (.Attribute o name apos) (e :: es) [] cpos) (tE X.K cl W (mutF att i p m fs)) :=
  PE.of (pe_bm pa slot hty hm ho ha hbase hfew hline hst hplain) fun σ H Q h => mut_read hT mt h
theorem se_mut0 (pa : PlainAttrs T) (slot : Slot T name id) (hty : typeOf (.builtin id) = pure (.type "method_descriptor")) (hm : MtR X id r) (hT : (T = "list" ∧ m ≠ .clearD) ∨ (T = "dict" ∧ m = .clearD)) (mt : MuT X cl m T r) (ho : PE X o (tP X.K cl att i p))
    (hbase : attributeBase o name X.env (eval o X.env) = eval o X.env) (hline : (apos.endLine == cpos.line) = true) :
    PE X (.Call (.Attribute o name apos) [] [] cpos) (tE X.K cl W (mutF att i p m fun ρ => .ok [] ρ)) :=
  PE.of (pe_bm0 pa slot hty hm ho hbase hline) fun σ H Q h => by
    obtain ⟨v, w, h1, h2, h3, ρ, R, M, s, q⟩ := mut_read (hs := []) hT mt h
    exact ⟨v, w, h1, h2, h3, q [] H _ ⟨rfl, rfl, rfl, fun p j v h => by simp at h⟩ s⟩
/-! o[n] = y -/
theorem ixN_lt {n j : Nat} {k : Int} (h : ixN n k = some j) : j < n := by
  unfold ixN at h
  repeat (split at h)
  all_goals (first | (cases h; omega) | (simp at h; omega) | (simp at h))
theorem shs_set : ∀ {vs : List V} {ds : List D} (j : Nat), vs.length = ds.length → (hj : j < ds.length) →
    ∃ v0 A B, vs[j]? = some v0 ∧ shs vs ds = A ++ .val v0 (ds[j]'hj) .sh :: B ∧ ∀ y d, shs (vs.set j y) (ds.set j d) = A ++ .val y d .sh :: B
  | v :: vs, d :: ds, 0, _, _ => ⟨v, [], shs vs ds, rfl, rfl, fun _ _ => rfl⟩
  | v :: vs, d :: ds, j + 1, h, hj => by
    obtain ⟨v0, A, B, e1, e2, e3⟩ := shs_set (vs := vs) (ds := ds) j (Nat.succ.inj h) (Nat.lt_of_succ_lt_succ hj)
    refine ⟨v0, .val v d .sh :: A, B, by simpa using e1, ?_, fun y d' => ?_⟩
    · show Item.val v d .sh :: shs vs ds = _
      rw [e2]
      rfl
    · show Item.val v d .sh :: shs (vs.set j y) (ds.set j d') = _
      rw [e3]
      rfl
  | [], d :: ds, _, h, _ => by cases h
  | _, [], _, _, hj => absurd hj (Nat.not_lt_zero _)
theorem set_read {σ : L2.St} {H : Hp} {D' : Ends} (h : ttS X cl W io (setiF att i p fn fy) D' σ H) : tAsg (tE X.K cl W fy) (gSub (tP X.K cl att i p) (tE X.K cl W0 fn) rSetL) D' σ H := by
  obtain ⟨ρ, R, M, k, s, hk, q⟩ := h
  refine ⟨ρ, R, M, s, (q.bindF hk).mono fun y H1 ⟨yd, N, ρ1, hr, s1, q1⟩ => ?_⟩
  subst hr
  split at q1
  · rename_i x e
    split at q1
    · rename_i d eg
      cases en : fn (sharedEnv ρ1) with
      | exc _ _ => rw [en] at q1; exact q1.elim
      | stuck => rw [en] at q1; exact q1.elim
      | ok nd ρ2 =>
        rw [en] at q1
        dsimp only at q1
        cases d with
        | lst ds =>
          cases en0 : nd.1 with
          | int ni =>
            rw [en0] at q1
            simp only [setD] at q1
            cases ej : ixN ds.length ni with
            | none => rw [ej] at q1; exact q1.elim
            | some j =>
              rw [ej] at q1
              dsimp only [Option.map] at q1
              cases ex' : setAt p x (.lst (ds.set j yd.1), .root) with
              | none => rw [ex'] at q1; exact q1.elim
              | some x' =>
                rw [ex'] at q1
                obtain ⟨v, hv, s2⟩ := s1.take (d := x.1) (o := x.2) e
                obtain ⟨Le, he, g⟩ := Sta.front (N := [.val v x.1 x.2]) s2
                obtain ⟨w, C, h1, g2, kk⟩ := Good.focus p g eg
                refine ⟨v, w, hv, h1, ?_⟩
                obtain ⟨Le0, he0, g0⟩ := id s1
                have gs : Good X.K cl H1 H1 (Le0.map shI) := (Good.tailA (g0.perm List.perm_append_comm)).shareAll he0.nocell
                refine ⟨sharedEnv ρ1, H1, [], ⟨_, he0.shared, by rw [List.append_nil]; exact gs⟩, ?_⟩
                rw [en]
                rintro b H2 N2 rfl s3
                obtain ⟨Le3, he3, g3⟩ := Sta.front (N := [.val b nd.1 nd.2]) s3
                have eH : Ex H1 H2 := g3.raw
                rw [en0] at g3
                have eb : b = .int ni := int_of g3
                obtain ⟨a, vs, rfl, hl, g4⟩ := (g2.heap eH).unpackLst
                refine ⟨a, vs, ni, j, rfl, eb, g4.cellAt, by rw [hl]; exact ej, ?_⟩
                have g5 : Good X.K cl R H2 (.cell a (.lst vs) :: (shs vs ds ++ (.val y yd.1 .sh :: (C ++ (Le ++ M))))) := by
                  have g6 : Good X.K cl R H2 (.val y yd.1 yd.2 :: (.cell a (.lst vs) :: (shs vs ds ++ (C ++ (Le ++ M))))) := by
                    refine g4.perm ?_
                    have p1 : (C ++ (Le ++ ([Item.val y yd.1 yd.2] ++ M))).Perm (.val y yd.1 yd.2 :: (C ++ (Le ++ M))) := by
                      rw [← List.append_assoc]
                      refine (List.perm_middle (a := Item.val y yd.1 yd.2) (l₁ := C ++ Le) (l₂ := M)).trans (List.Perm.cons _ ?_)
                      rw [List.append_assoc]
                    have p2 := (p1.append_left (shs vs ds)).trans (List.perm_middle (a := Item.val y yd.1 yd.2) (l₁ := shs vs ds) (l₂ := C ++ (Le ++ M)))
                    exact (List.Perm.cons _ p2).trans (.swap _ _ _)
                  refine (g6.share).perm ?_
                  exact (List.Perm.swap _ _ _).trans (List.Perm.cons _ List.perm_middle.symm)
                have g7 : Good X.K cl R (upd H2 a (.lst (vs.set j y))) (.cell a (.lst (vs.set j y)) :: (shs (vs.set j y) (ds.set j yd.1) ++ (C ++ (Le ++ M)))) := by
                  have hj : j < ds.length := ixN_lt ej
                  obtain ⟨v0, A, B, e3, e4, e5⟩ := shs_set (vs := vs) (ds := ds) j hl hj
                  rw [e5, List.append_assoc]
                  rw [e4] at g5
                  have g8 : Good X.K cl R H2 (.cell a (.lst vs) :: (A ++ (.val y yd.1 .sh :: (B ++ (C ++ (Le ++ M)))))) := by
                    have g9 : Good X.K cl R H2 (.val v0 (ds[j]'hj) .sh :: (.cell a (.lst vs) :: (A ++ (.val y yd.1 .sh :: (B ++ (C ++ (Le ++ M))))))) := by
                      refine g5.perm ?_
                      refine (List.Perm.cons _ ?_).trans (.swap _ _ _)
                      rw [List.append_assoc]
                      refine List.perm_middle.trans (List.Perm.cons _ ?_)
                      exact List.Perm.append_left A List.perm_middle
                    exact g9.tail
                  exact g8.write
                have g10 := kk ex' (g7.packLst (by rw [List.length_set, List.length_set, hl]))
                have s5 : Sta X.K cl σ (upd H2 a (.lst (vs.set j y))) R (ρ1.set i none) (.val v x'.1 x'.2 :: M) := Sta.ofFront (N := [.val v x'.1 x'.2]) he g10
                have hi : i < ρ1.length := (List.getElem?_eq_some_iff.mp e).1
                have s6 := s5.give (by rw [List.getElem?_set_self hi]) hv
                rw [set_set] at s6
                exact q1 σ _ s6 hk
          | _ => rw [en0] at q1; simp only [setD] at q1; exact q1.elim
        | _ => exact q1.elim
    · exact q1.elim
  · exact q1.elim
end
end FB
namespace FB
open PySem L2 PyProof.Rows
section
variable {X : Cx} {cl : Nat → Addr} {W : WX} {io : List Nat} {o e a b : Expr} {pos pos' pos2 : Pos} {att : Nat → Str → Bool} {i : Nat} {p : List PStep} {fy fn : FEnv → Ev DO}
theorem ss_seti (ho : PE X o (tP X.K cl att i p)) (hn : PE X b (tE X.K cl W0 fn)) (hy : PE X e (tE X.K cl W fy))
    (ha : ∀ v, assign (.Subscript o b pos2) X.env v = (do
      let ov ← holding [v] (eval o X.env)
      let iv ← holding [v, ov] (eval b X.env)
      standAt pos2
      holding [v, ov, iv] (setItem ov iv v)
      release [v, ov, iv] []))
    (hs : swapsWithSole [.Subscript o b pos2] e pos.line X.env = pure false) (hw : swappedStores [.Subscript o b pos2] e X.env = pure none) (h1 : (assignEach [.Subscript o b pos2] X.env).map (·.2) = [assign (.Subscript o b pos2) X.env]) :
    PS X (.Assign [.Subscript o b pos2] e pos) (ttS X cl W io (setiF att i p fn fy)) :=
  PS.of (ps_asg hy (pg_sub ho hn set_list ha) hs hw h1) fun D' σ H h => set_read h
/-! o.f = y -/
def putVs : List Str → List V → Str → V → List V
  | k :: ks, d :: ds, x, y => if k = x then y :: ds else d :: putVs ks ds x y
  | _, _, _, y => [y]
theorem vals_put {f : Str} {y : V} {yd : D} {yo : O} : ∀ {fs : List Str} {vs : List V} {ds : List D} {os : List O}, fs.length = vs.length → vs.length = ds.length → ds.length = os.length →
    putF f y (fs.zip vs) = (putFs fs f).zip (putVs fs vs f y) ∧ (putFs fs f).length = (putVs fs vs f y).length ∧ (putVs fs vs f y).length = (putDs fs ds f yd).length ∧ (putDs fs ds f yd).length = (putOs fs os f yo).length ∧
    ∃ A : List Item, (vals vs ds os ++ [Item.val y yd yo]).Perm (vals (putVs fs vs f y) (putDs fs ds f yd) (putOs fs os f yo) ++ A)
  | [], [], [], [], _, _, _ => ⟨rfl, rfl, rfl, rfl, [], .refl _⟩
  | k :: fs, v :: vs, d :: ds, o :: os, h1, h2, h3 => by
    obtain ⟨e1, e2, e3, e4, A, e5⟩ := vals_put (f := f) (y := y) (yd := yd) (yo := yo) (Nat.succ.inj h1) (Nat.succ.inj h2) (Nat.succ.inj h3)
    by_cases hk : k = f
    · subst hk
      simp only [putF, putFs, putVs, putDs, putOs, if_pos, List.zip_cons_cons, List.length_cons]
      refine ⟨trivial, h1, h2, h3, [.val v d o], ?_⟩
      show (Item.val v d o :: (vals vs ds os ++ [.val y yd yo])).Perm (Item.val y yd yo :: (vals vs ds os ++ [.val v d o]))
      refine (List.Perm.cons _ List.perm_append_comm).trans ((List.Perm.swap _ _ _).trans (List.Perm.cons _ ?_))
      exact (List.perm_append_comm (l₁ := [Item.val v d o]) (l₂ := vals vs ds os))
    · simp only [putF, putFs, putVs, putDs, putOs, if_neg hk, List.zip_cons_cons, List.length_cons]
      refine ⟨by rw [e1], by rw [e2], by rw [e3], by rw [e4], A, ?_⟩
      exact List.Perm.cons _ e5
  | [], _ :: _, _, _, h, _, _ => by cases h
  | _ :: _, [], _, _, h, _, _ => by cases h
  | _, [], _ :: _, _, _, h, _ => by cases h
  | _, _ :: _, [], _, _, h, _ => by cases h
  | _, _, [], _ :: _, _, _, h => by cases h
  | _, _, _ :: _, [], _, _, h => by cases h
theorem putOs_sh {f : Str} {yd : D} : ∀ {fs : List Str} {ds : List D}, fs.length = ds.length → putOs fs (ds.map fun _ => O.sh) f .sh = (putDs fs ds f yd).map fun _ => O.sh
  | [], [], _ => rfl
  | k :: fs, d :: ds, h => by
    by_cases hk : k = f
    · simp [putOs, putDs, hk]
    · simp [putOs, putDs, hk]
      exact putOs_sh (Nat.succ.inj h)
  | [], _ :: _, h => by cases h
  | _ :: _, [], h => by cases h
theorem fld_perm {Le M L1 A B : List Item} {x y : Item} (h : (L1 ++ [y]).Perm (B ++ A)) : (x :: (L1 ++ (Le ++ ([y] ++ M)))).Perm (A ++ (x :: (B ++ (Le ++ M)))) := by
  have p1 : (L1 ++ (Le ++ ([y] ++ M))).Perm ((L1 ++ [y]) ++ (Le ++ M)) := by
    have q : (Le ++ ([y] ++ M)).Perm ([y] ++ (Le ++ M)) := List.perm_middle
    refine (q.append_left L1).trans ?_
    rw [← List.append_assoc]
  have p2 : ((L1 ++ [y]) ++ (Le ++ M)).Perm (A ++ (B ++ (Le ++ M))) := by
    refine (h.append_right _).trans ?_
    rw [← List.append_assoc A B]
    exact List.perm_append_comm.append_right _
  exact ((List.Perm.cons x (p1.trans p2))).trans List.perm_middle.symm
theorem ss_setf {x : Str} {f : Str} {p3 : Pos} (ok : AttOk X.K cl att) (hN : X.N[i]? = some x) (hv : Vis X.env.scope x) (hd : (x == ("__debug__" : Str)) = false) (hcd : (x == ("__classdict__" : Str)) = false) (hy : PE X e (tE X.K cl W fy))
    (hs : swapsWith e (some (.Attribute (.Name x p3) f pos')) pos.line X.env = pure false) : PS X (.Assign [.Attribute (.Name x p3) f pos'] e pos) (ttS X cl W io (setfF att i f fy)) :=
  PS.of (ps_fld (pe_var hN hv hd hcd) hy hs) fun Dn σ H ⟨ρ, R, M, k, s, hk, q⟩ => ⟨ρ, R, M, s, (q.bindF hk).mono fun y H1 ⟨yd, N, ρ1, hr, s1, q1⟩ => by
    subst hr
    split at q1
    · rename_i c fs ds e
      split at q1
      · rename_i hc
        simp only [Bool.and_eq_true, decide_eq_true_eq] at hc
        obtain ⟨k1, k2⟩ := ok c f hc.1
        obtain ⟨v, hv, s2⟩ := s1.take (d := .obj c fs ds) (o := .root) e
        obtain ⟨Le, he, g⟩ := Sta.front (N := [.val v (.obj c fs ds) .root]) s2
        obtain ⟨a, dx, vs, rfl, h1, h2, g⟩ := g.unpackObj
        refine ⟨.ref a, hv, a, cl c, dx, fs.zip vs, rfl, g.cellAt, k1, k2, by rw [List.length_zip]; omega, ?_⟩
        have h3 : ds.length = (ds.map fun _ => O.sh).length := by rw [List.length_map]
        obtain ⟨e1, e2, e3, e4, A, e5⟩ := vals_put (f := f) (y := y) (yd := yd.1) (yo := yd.2) h1 h2 h3
        have g2 : Good X.K cl R H1 (.cell a (.ins (cl c) dx (fs.zip vs)) :: (vals (putVs fs vs f y) (putDs fs ds f yd.1) (putOs fs (ds.map fun _ => O.sh) f yd.2) ++ (Le ++ M))) := Good.tailA (L := A) (g.perm (fld_perm e5))
        have g3 := g2.write (u' := .ins (cl c) dx ((putFs fs f).zip (putVs fs vs f y)))
        have hi : i < ρ1.length := (List.getElem?_eq_some_iff.mp e).1
        rw [e1]
        have fin : ∀ oo, Good X.K cl R (upd H1 a (.ins (cl c) dx ((putFs fs f).zip (putVs fs vs f y)))) (.val (.ref a) (.obj c (putFs fs f) (putDs fs ds f yd.1)) oo :: (Le ++ M)) → Sta X.K cl σ (upd H1 a (.ins (cl c) dx ((putFs fs f).zip (putVs fs vs f y)))) R (ρ1.set i (some (.obj c (putFs fs f) (putDs fs ds f yd.1), oo))) M := fun oo g => by
          have s5 : Sta X.K cl σ _ R (ρ1.set i none) (.val (.ref a) (.obj c (putFs fs f) (putDs fs ds f yd.1)) oo :: M) := Sta.ofFront (N := [.val (.ref a) (.obj c (putFs fs f) (putDs fs ds f yd.1)) oo]) he g
          have s6 := s5.give (by rw [List.getElem?_set_self hi]) hv
          rwa [set_set] at s6
        by_cases hsh : yd.2.isSh = true
        · have ey : yd.2 = .sh := by
            cases h : yd.2 with
            | sh => rfl
            | root => rw [h] at hsh; cases hsh
            | node os => rw [h] at hsh; cases hsh
          rw [if_pos hsh] at q1
          refine q1 σ _ (fin .root ?_) hk
          rw [ey, putOs_sh (yd := yd.1) (by rw [h1, h2])] at g3
          exact Good.packObj g3 e3 e2
        · rw [if_neg hsh] at q1
          exact q1 σ _ (fin _ (g3.packObjN e2 e3 e4)) hk
      · exact q1.elim
    · rename_i c fs ds os e
      split at q1
      · rename_i hc
        simp only [Bool.and_eq_true, decide_eq_true_eq] at hc
        obtain ⟨k1, k2⟩ := ok c f hc.1
        obtain ⟨v, hv, s2⟩ := s1.take (d := .obj c fs ds) (o := .node os) e
        obtain ⟨Le, he, g⟩ := Sta.front (N := [.val v (.obj c fs ds) (.node os)]) s2
        obtain ⟨a, dx, vs, rfl, h1, h2, h3, g⟩ := g.unpackObjN
        refine ⟨.ref a, hv, a, cl c, dx, fs.zip vs, rfl, g.cellAt, k1, k2, by rw [List.length_zip]; omega, ?_⟩
        obtain ⟨e1, e2, e3, e4, A, e5⟩ := vals_put (f := f) (y := y) (yd := yd.1) (yo := yd.2) h1 h2 h3
        have g2 : Good X.K cl R H1 (.cell a (.ins (cl c) dx (fs.zip vs)) :: (vals (putVs fs vs f y) (putDs fs ds f yd.1) (putOs fs os f yd.2) ++ (Le ++ M))) := Good.tailA (L := A) (g.perm (fld_perm e5))
        have g3 := g2.write (u' := .ins (cl c) dx ((putFs fs f).zip (putVs fs vs f y)))
        have hi : i < ρ1.length := (List.getElem?_eq_some_iff.mp e).1
        rw [e1]
        have s5 : Sta X.K cl σ _ R (ρ1.set i none) (.val (.ref a) (.obj c (putFs fs f) (putDs fs ds f yd.1)) (.node (putOs fs os f yd.2)) :: M) := Sta.ofFront (N := [.val (.ref a) (.obj c (putFs fs f) (putDs fs ds f yd.1)) (.node (putOs fs os f yd.2))]) he (g3.packObjN e2 e3 e4)
        have s6 := s5.give (by rw [List.getElem?_set_self hi]) hv
        rw [set_set] at s6
        exact q1 σ _ s6 hk
      · exact q1.elim
    · exact q1.elim⟩
end
/-! ### defs -/
section
variable {P : Program} {w : World} {K : PySem.W.Frag} {mg : Str → Option Value} {base : Heap} {cl : Nat → Addr}
theorem args_env : ∀ {n : Nat} {io : List Nat} {vs : List V} {xs : List DO} {R H : Hp} {M : List Item}, vs.length = xs.length → Good K cl R H (valsO vs xs ++ M) → ∃ Le, Envs (vs.map some) (shN io n xs) Le ∧ Good K cl R H (Le ++ M)
  | n, io, [], [], R, H, M, _, g => ⟨[], .nil, g⟩
  | n, io, v :: vs, x :: xs, R, H, M, hl, g => by
    have g1 : Good K cl R H (valsO vs xs ++ (.val v x.1 x.2 :: M)) := Good.perm (L := .val v x.1 x.2 :: (valsO vs xs ++ M)) g List.perm_middle.symm
    obtain ⟨Le, a, b⟩ := args_env (n := n + 1) (io := io) (Nat.succ.inj hl) g1
    have b1 : Good K cl R H (.val v x.1 x.2 :: (Le ++ M)) := b.perm List.perm_middle
    by_cases h : io.contains n = true
    · refine ⟨.val v x.1 x.2 :: Le, ?_, b1⟩
      simp only [shN, if_pos h]
      exact .yes a
    · refine ⟨.val v x.1 .sh :: Le, ?_, b1.share⟩
      simp only [shN, if_neg h]
      exact .yes a
theorem Envs.app : ∀ {σ : L2.St} {ρ : FEnv} {L : List Item} (n : Nat), Envs σ ρ L → Envs (σ ++ List.replicate n none) (ρ ++ List.replicate n none) L
  | _, _, _, n, .nil => by
    induction n with
    | zero => exact .nil
    | succ n ih => exact .no ih
  | _, _, _, n, .no h => .no (h.app n)
  | _, _, _, n, .yes h => .yes (h.app n)
theorem shN_len {io : List Nat} : ∀ {n : Nat} {xs : List DO}, (shN io n xs).length = xs.length
  | _, [] => rfl
  | n, x :: xs => by simp [shN, shN_len]
/-- the held ones handed back -/
theorem fin_io {vs : List V} {k : Nat → Option (Option V)} : ∀ {io : List Nat} {ρ : FEnv} {ds : List DO} {σ : L2.St} {R H : Hp} {M : List Item}, (∀ j ∈ io, k j = (vs[j]?).map some ∧ j < vs.length) → finIo ρ io = some ds → Kp io k σ → Sta K cl σ H R ρ M → ds.length = io.length ∧ Good K cl R H (ioI vs io ds ++ M)
  | [], ρ, ds, σ, R, H, M, _, e, _, s => by
    simp [finIo] at e
    subst e
    obtain ⟨Le, a, b⟩ := s
    exact ⟨rfl, b.tailA⟩
  | j :: io, ρ, ds, σ, R, H, M, hv, e, hk, s => by
    unfold finIo at e
    split at e
    · rename_i x e0
      rw [Option.map_eq_some_iff] at e
      obtain ⟨ds', e1, rfl⟩ := e
      obtain ⟨v, hσ, s1⟩ := s.take (d := x.1) (o := x.2) e0
      obtain ⟨h1, h2⟩ := fin_io (io := io) (fun i hi => hv i (List.mem_cons_of_mem _ hi)) e1 (fun i hi => hk i (List.mem_cons_of_mem _ hi)) s1
      obtain ⟨k1, k2⟩ := hv j List.mem_cons_self
      have k3 := hk j List.mem_cons_self
      rw [k1, hσ] at k3
      have k4 : vs[j]? = some v := by
        cases e5 : vs[j]? with
        | none => rw [e5] at k3; cases k3
        | some u => rw [e5] at k3; cases k3; rfl
      refine ⟨by rw [List.length_cons, List.length_cons, h1], ?_⟩
      unfold ioI
      rw [k4]
      exact h2.perm List.perm_middle
    · cases e
/-- a def of the text, whatever its defaults -/
structure FunZ (K : PySem.W.Frag) (x qual : Str) (st : Stmt) (f : Addr) (fd : FuncData) : Prop where
  ex : ∃ (oc : Value) (od : Option Addr) (dV kV doc pm : Value) (an : Option Addr) (cdv ct : Value) (osl : Array (Option Value)),
    fd = PySem.W.fnOf x qual (defArgs st) (defBody st) (defScope st) dV kV doc pm an cdv ct ∧ K.lookup f = some ⟨oc, od, .func fd, osl⟩ ∧ PySem.W.codeIn K cdv qual = true
  kp : PySem.W.keepIn K (.ref f) = true
theorem funZ_of {K : PySem.W.Frag} {x qual : Str} {st : Stmt} {f : Addr} {fd : FuncData} (F : Fun K x qual st f fd) : FunZ K x qual st f fd := by
  obtain ⟨oc, od, kV, doc, pm, an, cdv, ct, osl, h1, h2, h3⟩ := F.ex
  exact ⟨⟨oc, od, .none, kV, doc, pm, an, cdv, ct, osl, h1, h2, h3⟩, F.kp⟩
theorem FunZ.okX {x qual : Str} {st : Stmt} {f : Addr} {fd : FuncData} {N ps : List Str} {k : Nat} {sp : Sp} (F : FunZ K x qual st f fd) (S : FnScope N ps (defScope st)) (len : ∀ vs H Q E, sp vs H Q E → vs.length = ps.length)
    (hbody : ∀ (cdv : Value) (A : Around) (outer : List Env) (s : Shared) (H : Hp) (vs : List V) (Q : VK) (E : XK), Rm k (A.deeper (envOfC qual (defScope st) s.heap.objs.size f cdv)) → sp vs H Q E →
      ∃ t, PSs (cxOf (L2.CX P w) P w K mg base N qual (defScope st) f cdv A outer s H E) (defBody st) t ∧ t { nx := fun _ H' => Q .non H', rt := Q } (L2.start N vs) H) : FnR P w K mg base (L2.CX P w) (k + 1) f fd ps sp := by
  obtain ⟨oc, od, dV, kV, doc, pm, an, cdv, ct, osl, rfl, lk, hcd⟩ := F.ex
  exact fn_ofR lk hcd S len fun A outer s H vs Q E hr hsp => hbody cdv A outer s H vs Q E hr hsp
/-- a def of the text keeps the promise that its semantics are -/
theorem def_ok {x qual : Str} {st : Stmt} {f : Addr} {fd : FuncData} {N ps : List Str} {n : Nat} {pg : Pg} {df : FDef} (F : FunZ K x qual st f fd) (S : FnScope N ps (defScope st)) (hns : N.length = df.ns) (hnp : ps.length = df.np) (hle : df.np ≤ df.ns) (hio : ∀ j ∈ df.io, j < df.np)
    (body : ∀ (cdv : Value) (A : Around) (outer : List Env) (s : Shared) (H : Hp) (E : XK), Rm n (A.deeper (envOfC qual (defScope st) s.heap.objs.size f cdv)) →
      Takes (cxOf (L2.CX P w) P w K mg base N qual (defScope st) f cdv A outer s H E) (fun cls d _ H => E cls d H) → PassesOwn (model P w) (cxOf (L2.CX P w) P w K mg base N qual (defScope st) f cdv A outer s H E).A (cxOf (L2.CX P w) P w K mg base N qual (defScope st) f cdv A outer s H E).env (cxOf (L2.CX P w) P w K mg base N qual (defScope st) f cdv A outer s H E).xe →
      PSs (cxOf (L2.CX P w) P w K mg base N qual (defScope st) f cdv A outer s H E) (defBody st) (tS K cl (fun cls d _ H => E cls d H) df.io (evSs pg df.body))) :
    FnR P w K mg base (L2.CX P w) (n + 1) f fd ps (spF K cl df.np df.io (fnSem pg df)) := by
  refine F.okX S (fun vs H Q E h => ?_) (fun cdv A outer s H vs Q E hr h => ?_)
  · obtain ⟨R, M, xs, h1, _⟩ := h
    rw [h1, hnp]
  · obtain ⟨R, M, xs, h1, h2, g, hq⟩ := h
    refine ⟨_, body cdv A outer s H E hr (takes_of rfl rfl rfl rfl) (passes_of rfl), ?_⟩
    have hxl : xs.length = df.np := by rw [← h2, h1]
    obtain ⟨Le, he, gd⟩ := args_env (n := 0) (io := df.io) h2 g
    have hs : L2.start N vs = vs.map some ++ List.replicate (df.ns - df.np) none := by
      unfold L2.start
      rw [hns, h1]
    refine ⟨shN df.io 0 xs ++ List.replicate (df.ns - df.np) none, R, M, fun j => (L2.start N vs)[j]?, ⟨Le, by rw [hs]; exact he.app _, gd⟩, fun j hj => rfl, ?_⟩
    unfold fnSem at hq
    rw [if_pos hxl] at hq
    have hk0 : ∀ j ∈ df.io, (L2.start N vs)[j]? = (vs[j]?).map some ∧ j < vs.length := fun j hj => by
      have hj' : j < vs.length := by rw [h1]; exact hio j hj
      refine ⟨?_, hj'⟩
      rw [hs, List.getElem?_append_left (by rw [List.length_map]; exact hj'), List.getElem?_map]
    cases eb : evSs pg df.body (shN df.io 0 xs ++ List.replicate (df.ns - df.np) none) with
    | nx ρ =>
      rw [eb] at hq
      dsimp only at hq
      intro σ H' s' hk
      cases ef : finIo ρ df.io with
      | none => rw [ef] at hq; exact hq.elim
      | some ds =>
        rw [ef] at hq
        obtain ⟨a1, a2⟩ := fin_io hk0 ef hk s'
        exact hq.2 .non H' (a2.flat .non)
    | rt d o ρ =>
      rw [eb] at hq
      dsimp only at hq
      intro v σ H' s' hk
      cases ef : finIo ρ df.io with
      | none => rw [ef] at hq; exact hq.elim
      | some ds =>
        rw [ef] at hq
        obtain ⟨a1, a2⟩ := fin_io hk0 ef hk s'
        exact hq.2 v H' (a2.perm (by exact List.perm_middle))
    | exc x ρ =>
      rw [eb] at hq
      dsimp only at hq
      intro σ H' dx s' hk xo
      cases ef : finIo ρ df.io with
      | none => rw [ef] at hq; exact hq.elim
      | some ds =>
        rw [ef] at hq
        obtain ⟨a1, a2⟩ := fin_io hk0 ef hk s'
        exact hq.2 H' dx a2 xo
    | br ρ => rw [eb] at hq; exact hq.elim
    | ct ρ => rw [eb] at hq; exact hq.elim
    | stuck => rw [eb] at hq; exact hq.elim
end
end FB
namespace FB
open PySem L2 PyProof.Rows
/-- a def binds its arguments, all written or but for one of the lists of defaults -/
def BD (K : PySem.W.Frag) (fd : FuncData) (ps : List Str) (D : List (List Const)) : Prop := Binds K fd ps [] ∧ ∀ df ∈ D, (∀ c ∈ df, (constD c).isSome = true) ∧ ∃ ds, Vals (df.map constV) ds ∧ Binds K fd ps ds
theorem BD.nil {K : PySem.W.Frag} {fd : FuncData} {ps : List Str} (b : Binds K fd ps []) : BD K fd ps [] := ⟨b, fun _ h => by cases h⟩
/-- as FnI, by its parts -/
structure FnJ (P : Program) (w : World) (K : PySem.W.Frag) (mg : Str → Option Value) (base : Heap) (cl : Nat → Addr) (n : Nat) (a : Addr) (np : Nat) (io : List Nat) (g : List DO → Rt) (D : List (List Const) := []) : Prop where
  ex : ∃ (fd : FuncData) (ps : List Str), FnR P w K mg base (L2.CX P w) n a fd ps (spF K cl np io g) ∧ BD K fd ps D
  gnp : ∀ xs, g xs ≠ .stuck → xs.length = np
  ionp : ∀ j ∈ io, j < np
theorem FnJ.toI {X : Cx} {cl : Nat → Addr} {n : Nat} {a : Addr} {np : Nat} {io : List Nat} {g : List DO → Rt} {D : List (List Const)} (J : FnJ X.prog X.w X.K X.mg X.base cl n a np io g D) : FnI X cl n a np io g [] :=
  ⟨let ⟨fd, ps, h, b⟩ := J.ex; ⟨fd, ps, h, [], .nil, b.1⟩, J.gnp, J.ionp, fun c h => by simp at h⟩
theorem FnJ.toD {X : Cx} {cl : Nat → Addr} {n : Nat} {a : Addr} {np : Nat} {io : List Nat} {g : List DO → Rt} {D : List (List Const)} {df : List Const} (J : FnJ X.prog X.w X.K X.mg X.base cl n a np io g D) (hd : df ∈ D) : FnI X cl n a np io g df :=
  ⟨let ⟨fd, ps, h, b⟩ := J.ex; ⟨fd, ps, h, (b.2 df hd).2⟩, J.gnp, J.ionp, let ⟨_, _, _, b⟩ := J.ex; (b.2 df hd).1⟩
/-- what stays through a body -/
structure Bd (X : Cx) (W : WX) (n : Nat) : Prop where
  hr : Rm n X.A
  hc : X.calm = true
  tk : Takes X W
theorem Bd.hu {X : Cx} {W : WX} {n : Nat} (b : Bd X W n) : X.A.units + 64 < cLine := b.hr.units
section
variable {X : Cx} {cl : Nat → Addr} {W : WX} {n : Nat} {io : List Nat} {a b c e o : Expr} {es : List Expr} {pos pos' apos p' : Pos} {pg : Pg} {ea eb ec : E} {ees : Es} {x m : Str}
abbrev QE (X : Cx) (cl : Nat → Addr) (W : WX) (pg : Pg) (a : Expr) (ea : E) : Prop := PE X a (tE X.K cl W (evE pg ea))
abbrev QT (X : Cx) (cl : Nat → Addr) (W : WX) (pg : Pg) (a : Expr) (ea : T) : Prop := PT X a (tT X.K cl W (evT pg ea))
abbrev QW (X : Cx) (cl : Nat → Addr) (W : WX) (pg : Pg) (a : Expr) (ea : T) : Prop := PW X a (tT X.K cl W (evT pg ea))
abbrev QA (X : Cx) (cl : Nat → Addr) (W : WX) (pg : Pg) (as : List Expr) (es : Es) : Prop := PA X as (tA X.K cl W (holdsOf es) (evEs pg es))
abbrev QI (X : Cx) (cl : Nat → Addr) (W : WX) (pg : Pg) (tg a : Expr) (ea : It) : Prop := PI X tg a (tI X.K cl W (evI pg ea))
abbrev QS (X : Cx) (cl : Nat → Addr) (W : WX) (io : List Nat) (pg : Pg) (a : Stmt) (s : S) : Prop := PS X a (tS X.K cl W io (evS pg s))
abbrev QSs (X : Cx) (cl : Nat → Addr) (W : WX) (io : List Nat) (pg : Pg) (a : List Stmt) (s : Ss) : Prop := PSs X a (tS X.K cl W io (evSs pg s))
theorem re_v (i : Nat) (hN : X.N[i]? = some x := by rfl) (hv : Vis X.env.scope x := by first | exact Or.inl rfl | exact Or.inr (Or.inl rfl) | exact Or.inr (Or.inr rfl)) (hd : (x == ("__debug__" : Str)) = false := by rfl) (hcd : (x == ("__classdict__" : Str)) = false := by rfl) : QE X cl W pg (.Name x pos) (.v i) := se_v hN hv hd hcd
theorem re_hold (i : Nat) (hN : X.N[i]? = some x := by rfl) (hv : Vis X.env.scope x := by first | exact Or.inl rfl | exact Or.inr (Or.inl rfl) | exact Or.inr (Or.inr rfl)) (hd : (x == ("__debug__" : Str)) = false := by rfl) (hcd : (x == ("__classdict__" : Str)) = false := by rfl) : QE X cl W pg (.Name x pos) (.hold i) :=
  PE.of (seh_hold (cl := cl) (W := W) hN hv hd hcd) fun σ H Q ⟨ρ, R, M, s, p⟩ => ⟨ρ, R, M, s, p.rep fun b x N h => h.1⟩
theorem re_k {c : Const} {k : Nat} {d : D} (hc : constD c = some d := by rfl) : QE X cl W pg (.Constant c k pos) (.k c) := by
  refine PE.of (se_k (cl := cl) (W := W) hc) fun σ H Q ⟨ρ, R, M, s, p⟩ => ⟨ρ, R, M, s, ?_⟩
  simp only [evE, hc, opt] at p
  exact p
theorem re_g (k : Nat) {u : Value} (hm : X.mg x = some u) (ok : GlOk X.K cl u (pg.gl k)) (hg : Gl X x := by rfl) (hd : (x == ("__debug__" : Str)) = false := by rfl) : QE X cl W pg (.Name x pos) (.g k) := se_g hg hm ok hd
theorem re_bin {op : Operator} (ha : QE X cl W pg a ea) (hb : QE X cl W pg b eb) : QE X cl W pg (.BinOp a op b pos) (.bin op ea eb) := se_bin ha hb
theorem re_un {op : UnaryOp} (ha : QE X cl W pg a ea) (hop : op ≠ .Not := by decide) : QE X cl W pg (.UnaryOp op a pos) (.un op ea) := se_un ha
theorem re_cmp {op : CmpOp} (B : Bd X W n) (ha : QE X cl W pg a ea) (hb : QE X cl W pg b eb) (hm : behindInMarks op b = false := by rfl) : QE X cl W pg (.Compare a [op] [b] pos) (.cmp op ea eb) := se_cmp B.hu ha hb hm
theorem rt_cmp {op : CmpOp} (B : Bd X W n) (ha : QE X cl W pg a ea) (hb : QE X cl W pg b eb) (hm : behindInMarks op b = false := by rfl) : QT X cl W pg (.Compare a [op] [b] pos) (.e (.cmp op ea eb)) := by
  refine PT.of (st_cmp (cl := cl) (W := W) B.hu ha hb hm) fun σ H Q ⟨ρ, R, M, s, p⟩ => ⟨ρ, R, M, s, ?_⟩
  have e : evT pg (.e (.cmp op ea eb)) ρ = (evE pg ea ρ).bind fun x ρ1 => (evE pg eb ρ1).bind fun y ρ2 => opt (cmpD op x.1 y.1) ρ2 fun z => .ok z ρ2 := by
    simp only [evT, evE, bind_assoc, bind_opt]
    rfl
  rw [e] at p
  exact p
theorem rt_e (ha : QE X cl W pg a ea) (he : ∀ whole, isTrue a X.env whole = (do let v ← whole; standAt a.pos; holding [v] (truthy v)) := by intro _; rfl) : QT X cl W pg a (.e ea) := st_e ha he
theorem rw_and {rest : List Expr} {ta tb : T} (ha : QT X cl W pg a ta) (hb : QW X cl W pg (.BoolOp .And (b :: rest) pos) tb) : QW X cl W pg (.BoolOp .And (a :: b :: rest) pos) (.and ta tb) := st_and ha hb
theorem rw_or {rest : List Expr} {ta tb : T} (ha : QT X cl W pg a ta) (hb : QW X cl W pg (.BoolOp .Or (b :: rest) pos) tb) : QW X cl W pg (.BoolOp .Or (a :: b :: rest) pos) (.or ta tb) := st_or ha hb
theorem rw_and1 {ta : T} (ha : QT X cl W pg a ta) : QW X cl W pg (.BoolOp .And [a] pos) ta := pw_and1 ha
theorem rw_or1 {ta : T} (ha : QT X cl W pg a ta) : QW X cl W pg (.BoolOp .Or [a] pos) ta := pw_or1 ha
theorem rt_w {ta : T} (h : QW X cl W pg a ta) : QT X cl W pg a ta := h.pt
theorem rt_not {ta : T} (ha : QT X cl W pg a ta) : QT X cl W pg (.UnaryOp .Not a pos) (.not ta) := st_not ha
theorem re_bnot (ha : QE X cl W pg a ea) : QE X cl W pg (.UnaryOp .Not a pos) (.bnot ea) := se_bnot ha
theorem re_band {rest : List Expr} (ha : QE X cl W pg a ea) (hb : QE X cl W pg (.BoolOp .And (b :: rest) pos) eb) : QE X cl W pg (.BoolOp .And (a :: b :: rest) pos) (.band ea eb) := se_band ha hb
theorem re_bor2 {rest : List Expr} (ha : QE X cl W pg a ea) (hb : QE X cl W pg (.BoolOp .Or (b :: rest) pos) eb) : QE X cl W pg (.BoolOp .Or (a :: b :: rest) pos) (.bor2 ea eb) := se_bor2 ha hb
theorem re_one {op : BoolOp} (ha : QE X cl W pg a ea) : QE X cl W pg (.BoolOp op [a] pos) ea := pe_one ha
theorem re_ife {tc : T} (hc : QT X cl W pg c tc) (ha : QE X cl W pg a ea) (hb : QE X cl W pg b eb) : QE X cl W pg (.IfExp c a b pos) (.ife tc ea eb) := se_ife hc ha hb
theorem re_bor (ha : QE X cl W pg a ea) : QE X cl W pg a (.bor ea) := se_bor ha
theorem rt_bor {ta : T} (ha : QT X cl W pg a ta) : QT X cl W pg a (.bor ta) := st_bor ha
theorem ra_nil : QA X cl W pg [] .nil := sa_nil
theorem ra_cons (ha : QE X cl W pg a ea) (hs : QA X cl W pg es ees) (hh : holdsOf (.cons ea ees) = none :: holdsOf ees := by rfl) (hst : starEach (a :: es) X.env = (false, eval a X.env) :: starEach es X.env := by rfl) : QA X cl W pg (a :: es) (.cons ea ees) := by
  unfold QA
  rw [hh]
  exact sa_cons (seh_e ha) hs hst
theorem re_lstH {hs : List (Option Nat)} (hs' : PA X es (tA X.K cl W hs (evEs pg ees))) : QE X cl W pg (.List es pos) (.lst ees) := se_lst hs'
theorem re_tupH {k : Nat} {hs : List (Option Nat)} (hs' : PA X es (tA X.K cl W hs (evEs pg ees))) : QE X cl W pg (.Tuple es k pos) (.tup ees) := se_tup hs'
theorem ra_hold (i : Nat) (hs : QA X cl W pg es ees) (hN : X.N[i]? = some x := by rfl) (hv : Vis X.env.scope x := by first | exact Or.inl rfl | exact Or.inr (Or.inl rfl) | exact Or.inr (Or.inr rfl)) (hd : (x == ("__debug__" : Str)) = false := by rfl) (hcd : (x == ("__classdict__" : Str)) = false := by rfl)
    (hst : starEach (Expr.Name x pos :: es) X.env = (false, eval (Expr.Name x pos) X.env) :: starEach es X.env := by rfl) : QA X cl W pg (.Name x pos :: es) (.cons (.hold i) ees) :=
  sa_cons (seh_hold hN hv hd hcd) hs hst
theorem re_lst (hs : QA X cl W pg es ees) : QE X cl W pg (.List es pos) (.lst ees) := se_lst hs
theorem re_tup {k : Nat} (hs : QA X cl W pg es ees) : QE X cl W pg (.Tuple es k pos) (.tup ees) := se_tup hs
theorem re_ix (B : Bd X W n) (ha : QE X cl W pg a ea) (hb : QE X cl W pg b eb) (hs : PlainIx b := by intro _ _; rfl) : QE X cl W pg (.Subscript a b pos) (.ix ea eb) := se_ix B.hu ha hb hs
theorem re_sl {p2 : Pos} {lo hi : Option Expr} {hl hh : Bool} (ha : QE X cl W pg a ea) (h1 : SO X cl W lo (partF hl (evE pg eb))) (h2 : SO X cl W hi (partF hh (evE pg ec))) : QE X cl W pg (.Subscript a (.Slice lo hi none p2) pos) (.sl ea hl eb hh ec) := se_sl ha h1 h2
theorem re_fld {f : Str} (ok : AttOk X.K cl pg.att) (ha : QE X cl W pg a ea) (hb : attributeBase a f X.env (eval a X.env) = eval a X.env := by rfl) : QE X cl W pg (.Attribute a f pos) (.fld ea f) := se_fld ok ha hb
theorem dflt_nil {xs : List DO} : xs ++ dflt [] = xs := List.append_nil xs
theorem re_call {D : List (List Const)} {np : Nat} {jo : List Nat} {f : Addr} (k : Nat) (bk : List (Option Nat)) (B : Bd X W n) (J : FnJ X.prog X.w X.K X.mg X.base cl n f np jo (pg.fn k) D) (hm : X.mg x = some (.ref f)) (hk : PySem.W.keepIn X.K (.ref f) = true) (ha : QA X cl W pg (e :: es) ees)
    (hb : bkOk (holdsOf ees) jo bk = true := by rfl) (hg : Gl X x := by rfl) (hdb : (x == ("__debug__" : Str)) = false := by rfl) (hst : starEach (e :: es) X.env = (false, eval e X.env) :: starEach es X.env := by rfl) (hpl : (backTo pos (starEach es X.env)).any (·.1) = false := by rfl) :
    QE X cl W pg (.Call (.Name x p') (e :: es) [] pos) (.call k ees [] bk) := se_call J.toI B.hr B.tk hg hm hk ha hdb hst hpl hb
theorem re_callD {D : List (List Const)} {np : Nat} {jo : List Nat} {f : Addr} (k : Nat) (df : List Const) (bk : List (Option Nat)) (B : Bd X W n) (J : FnJ X.prog X.w X.K X.mg X.base cl n f np jo (pg.fn k) D) (hd : df ∈ D) (hm : X.mg x = some (.ref f)) (hk : PySem.W.keepIn X.K (.ref f) = true) (ha : QA X cl W pg (e :: es) ees)
    (hb : bkOk (holdsOf ees) jo bk = true := by rfl) (hg : Gl X x := by rfl) (hdb : (x == ("__debug__" : Str)) = false := by rfl) (hst : starEach (e :: es) X.env = (false, eval e X.env) :: starEach es X.env := by rfl) (hpl : (backTo pos (starEach es X.env)).any (·.1) = false := by rfl) :
    QE X cl W pg (.Call (.Name x p') (e :: es) [] pos) (.call k ees df bk) := se_call (J.toD hd) B.hr B.tk hg hm hk ha hdb hst hpl hb
theorem re_cattr {D : List (List Const)} {np : Nat} {jo : List Nat} {f C : Addr} {pl : Sem Bool} (k : Nat) (bk : List (Option Nat)) (B : Bd X W n) (J : FnJ X.prog X.w X.K X.mg X.base cl n f np jo (pg.fn k) D) (hm : X.mg x = some (.ref C)) (hC : CAttr X.K C m f) (hk : PySem.W.keepIn X.K (.ref f) = true) (ha : QA X cl W pg (e :: es) ees)
    (ht : eval (.Call (.Attribute (.Name x p') m apos) (e :: es) [] pos) X.env = (do
      let ov ← eval (.Name x p') X.env
      standAt apos.atName
      let (f, first) ← holding [ov] (getMethod ov m pl)
      callWith pos f first (backTo pos (starEach (e :: es) X.env)) (backToKw pos (keywordEach [] X.env))))
    (hb : bkOk (holdsOf ees) jo bk = true := by rfl) (hg : Gl X x := by rfl) (hdb : (x == ("__debug__" : Str)) = false := by rfl) (hst : starEach (e :: es) X.env = (false, eval e X.env) :: starEach es X.env := by rfl) (hpl : (backTo pos (starEach es X.env)).any (·.1) = false := by rfl) :
    QE X cl W pg (.Call (.Attribute (.Name x p') m apos) (e :: es) [] pos) (.call k ees [] bk) := se_cattr J.toI B.hr B.tk hg hm hC hk ha hdb hst hpl hb ht
structure MthJ (P : Program) (w : World) (K : PySem.W.Frag) (mg : Str → Option Value) (base : Heap) (cl : Nat → Addr) (n : Nat) (mth : Nat → Str → Option Nat) (fn : Nat → List DO → Rt) (iof : Nat → List Nat) (m : Str) : Prop where
  ok : ∀ c f, mth c m = some f → Cls K (cl c) ∧ ∃ a np, Meth K (cl c) m a ∧ ∃ D, FnJ P w K mg base cl n a np (iof f) (fn f) D
theorem MthJ.toI {mth : Nat → Str → Option Nat} {fn : Nat → List DO → Rt} {iof : Nat → List Nat} (J : MthJ X.prog X.w X.K X.mg X.base cl n mth fn iof m) : MthI X cl n mth fn iof m [] :=
  ⟨fun c f h => let ⟨h1, a, np, h2, _, h3⟩ := J.ok c f h; ⟨h1, a, np, h2, h3.toI⟩⟩
theorem re_mth {eo : E} {pl : Sem Bool} (B : Bd X W n) (bk : List (Option Nat)) (J : MthJ X.prog X.w X.K X.mg X.base cl n pg.mth pg.fn pg.iof m) (ho : QE X cl W pg o eo) (ha : QA X cl W pg (e :: es) ees)
    (ht : eval (.Call (.Attribute o m apos) (e :: es) [] pos) X.env = (do
      let ov ← eval o X.env
      standAt apos.atName
      let (f, first) ← holding [ov] (getMethod ov m pl)
      callWith pos f first (backTo pos (starEach (e :: es) X.env)) (backToKw pos (keywordEach [] X.env))))
    (hst : starEach (e :: es) X.env = (false, eval e X.env) :: starEach es X.env := by rfl) (hpl : (backTo pos (starEach es X.env)).any (·.1) = false := by rfl) :
    QE X cl W pg (.Call (.Attribute o m apos) (e :: es) [] pos) (.mth eo m ees [] bk) :=
  se_mth J.toI B.hr B.tk ho ha (fun e' es' h => by cases h; exact ⟨hst, hpl⟩) (fun h => by cases h) ht
theorem re_mth0 {eo : E} {pl : Sem Bool} (B : Bd X W n) (bk : List (Option Nat)) (J : MthJ X.prog X.w X.K X.mg X.base cl n pg.mth pg.fn pg.iof m) (ho : QE X cl W pg o eo)
    (ht : eval (.Call (.Attribute o m apos) [] [] pos) X.env = (do
      let ov ← eval o X.env
      standAt apos.atName
      let (f, first) ← holding [ov] (getMethod ov m pl)
      callWith pos f first (backTo pos (starEach [] X.env)) (backToKw pos (keywordEach [] X.env)))) :
    QE X cl W pg (.Call (.Attribute o m apos) [] [] pos) (.mth eo m .nil [] bk) :=
  se_mth J.toI B.hr B.tk ho ra_nil (fun e' es' h => by cases h) (fun h => ⟨rfl, rfl⟩) ht
structure MkJ (P : Program) (w : World) (K : PySem.W.Frag) (mg : Str → Option Value) (base : Heap) (cl : Nat → Addr) (n c : Nat) (m : List DO → Rt) (D : List (List Const) := []) : Prop where
  ex : ∃ (f : Addr) (k np : Nat) (g : List DO → Rt), Mk K (cl c) f ∧ FnJ P w K mg base cl k f np [0] g D ∧ k + 1 ≤ n ∧ m = makSem c g
theorem MkJ.toD {c : Nat} {m : List DO → Rt} {D : List (List Const)} {df : List Const} (J : MkJ X.prog X.w X.K X.mg X.base cl n c m D) (hd : df ∈ D) : MkI X cl n c m df := ⟨let ⟨f, k, np, g, h1, h2, h3, h4⟩ := J.ex; ⟨f, k, np, [0], g, h1, h2.toD hd, h3, h4, rfl⟩⟩
theorem MkJ.toI {c : Nat} {m : List DO → Rt} {D : List (List Const)} (J : MkJ X.prog X.w X.K X.mg X.base cl n c m D) : MkI X cl n c m [] := ⟨let ⟨f, k, np, g, h1, h2, h3, h4⟩ := J.ex; ⟨f, k, np, [0], g, h1, h2.toI, h3, h4, rfl⟩⟩
theorem re_mk {D : List (List Const)} (c : Nat) (B : Bd X W n) (J : MkJ X.prog X.w X.K X.mg X.base cl n c (pg.mak c) D) (hm : X.mg x = some (.ref (cl c))) (hk : PySem.W.keepIn X.K (.ref (cl c)) = true) (ha : QA X cl W pg (e :: es) ees)
    (hg : Gl X x := by rfl) (hdb : (x == ("__debug__" : Str)) = false := by rfl) (hst : starEach (e :: es) X.env = (false, eval e X.env) :: starEach es X.env := by rfl) (hpl : (backTo pos (starEach es X.env)).any (·.1) = false := by rfl) :
    QE X cl W pg (.Call (.Name x p') (e :: es) [] pos) (.mk c ees []) := se_mk J.toI B.hr B.tk hg hm hk ha hdb hst hpl
theorem re_mkD {D : List (List Const)} (c : Nat) (df : List Const) (B : Bd X W n) (J : MkJ X.prog X.w X.K X.mg X.base cl n c (pg.mak c) D) (hd : df ∈ D) (hm : X.mg x = some (.ref (cl c))) (hk : PySem.W.keepIn X.K (.ref (cl c)) = true) (ha : QA X cl W pg (e :: es) ees)
    (hg : Gl X x := by rfl) (hdb : (x == ("__debug__" : Str)) = false := by rfl) (hst : starEach (e :: es) X.env = (false, eval e X.env) :: starEach es X.env := by rfl) (hpl : (backTo pos (starEach es X.env)).any (·.1) = false := by rfl) :
    QE X cl W pg (.Call (.Name x p') (e :: es) [] pos) (.mk c ees df) := se_mk (J.toD hd) B.hr B.tk hg hm hk ha hdb hst hpl
theorem re_biB {id : String} (bb : Bi) (hc : CallR X (.builtin id) (rBi X.K cl (biD bb))) (hm : X.mg x = none) (ha : QA X cl W pg (e :: es) ees) (hv : bootBuiltins x = some (.builtin id) := by decide +kernel) (hg : Gl X x := by rfl) (hn : x ≠ "__name__" := by decide) (hdb : (x == ("__debug__" : Str)) = false := by rfl)
    (he : starEach (e :: es) X.env = (false, eval e X.env) :: starEach es X.env := by rfl) (hpl : (backTo pos (starEach es X.env)).any (·.1) = false := by rfl) : QE X cl W pg (.Call (.Name x p') (e :: es) [] pos) (.bi bb ees) := se_biB hc hg hm hv ha hn hdb he hpl
theorem re_biT {T : String} (bb : Bi) (hc : CallR X (.type T) (rBi X.K cl (biD bb))) (hm : X.mg x = none) (ha : QA X cl W pg (e :: es) ees) (hv : bootBuiltins x = some (.type T) := by decide +kernel) (hg : Gl X x := by rfl) (hn : x ≠ "__name__" := by decide) (hdb : (x == ("__debug__" : Str)) = false := by rfl)
    (he : starEach (e :: es) X.env = (false, eval e X.env) :: starEach es X.env := by rfl) (hpl : (backTo pos (starEach es X.env)).any (·.1) = false := by rfl) : QE X cl W pg (.Call (.Name x p') (e :: es) [] pos) (.bi bb ees) := se_biT hc hg hm hv ha hn hdb he hpl
theorem re_isi {t : Ty} {cv : V} {u : Value} (ok : IsiOk X.K cl pg.isk t cv u) (hm : X.mg x = none) (ha : QE X cl W pg a ea) (hc : PE X c (tC cv)) (hv : bootBuiltins x = some (.builtin "isinstance") := by decide +kernel) (hg : Gl X x := by rfl) (hn : x ≠ "__name__" := by decide) (hdb : (x == ("__debug__" : Str)) = false := by rfl)
    (he : starEach [a, c] X.env = (false, eval a X.env) :: starEach [c] X.env := by rfl) (he2 : starEach [c] X.env = (false, eval c X.env) :: starEach [] X.env := by rfl) (hpl : (backTo pos (starEach [c] X.env)).any (·.1) = false := by rfl) :
    QE X cl W pg (.Call (.Name x p') [a, c] [] pos) (.isi ea t) := se_isi ok hg hm hv ha hc hn hdb he he2 hpl
theorem re_mut0 {T id : String} {i : Nat} {p : List PStep} {mu : Mu} {r : V → List V → Hp → VK → Prop} (pa : PlainAttrs T) (slot : Slot T m id) (hty : typeOf (.builtin id) = pure (.type "method_descriptor")) (hm : MtR X id r) (hT : (T = "list" ∧ mu ≠ .clearD) ∨ (T = "dict" ∧ mu = .clearD)) (mt : MuT X cl mu T r) (ho : PE X o (tP X.K cl pg.att i p))
    (hbase : attributeBase o m X.env (eval o X.env) = eval o X.env := by rfl) (hline : (apos.endLine == pos.line) = true := by rfl) : QE X cl W pg (.Call (.Attribute o m apos) [] [] pos) (.mut i p mu .nil) := se_mut0 pa slot hty hm hT mt ho hbase hline
theorem re_mut {T id : String} {i : Nat} {p : List PStep} {mu : Mu} {r : V → List V → Hp → VK → Prop} (pa : PlainAttrs T) (slot : Slot T m id) (hty : typeOf (.builtin id) = pure (.type "method_descriptor")) (hm : MtR X id r) (hT : (T = "list" ∧ mu ≠ .clearD) ∨ (T = "dict" ∧ mu = .clearD)) (mt : MuT X cl mu T r) (ho : PE X o (tP X.K cl pg.att i p)) (ha : QA X cl W pg (e :: es) ees)
    (hbase : attributeBase o m X.env (eval o X.env) = eval o X.env := by rfl)
    (hfew : ((backTo pos (starEach (e :: es) X.env)).all (fun x => !x.1) && (backToKw pos (keywordEach [] X.env)).all (fun x => x.1.isSome)
      && decide ((e :: es).length + ([] : List Keyword).length + (if ([] : List Keyword).isEmpty then 0 else 1) < 30)) = true := by rfl)
    (hline : (apos.endLine == pos.line) = true := by rfl) (hst : starEach (e :: es) X.env = (false, eval e X.env) :: starEach es X.env := by rfl) (hplain : (backTo pos (starEach es X.env)).any (·.1) = false := by rfl) :
    QE X cl W pg (.Call (.Attribute o m apos) (e :: es) [] pos) (.mut i p mu ees) := se_mut pa slot hty hm hT mt ho ha hbase hfew hline hst hplain
theorem rp_name (att : Nat → Str → Bool) (i : Nat) (hN : X.N[i]? = some x := by rfl) (hv : Vis X.env.scope x := by first | exact Or.inl rfl | exact Or.inr (Or.inl rfl) | exact Or.inr (Or.inr rfl)) (hd : (x == ("__debug__" : Str)) = false := by rfl) (hcd : (x == ("__classdict__" : Str)) = false := by rfl) : PE X (.Name x pos) (tP X.K cl att i []) := pp_name hN hv hd hcd
theorem rp_idx {att : Nat → Str → Bool} {i : Nat} {p : List PStep} {k : Nat} {p2 : Pos} (j : Nat) (ha : PE X a (tP X.K cl att i p)) : PE X (.Subscript a (.Constant (.int (Int.ofNat j)) k p2) pos) (tP X.K cl att i (p ++ [.idx j])) := pp_idx rfl ha
/-! statements -/
variable {st : Stmt} {ss : List Stmt} {s : S} {s2 s3 : Ss}
theorem rs_no : QS X cl W io pg st .no := ss_no
theorem rs_nil : QSs X cl W io pg [] .nil := sss_nil
theorem rs_cons (h1 : QS X cl W io pg st s) (h2 : QSs X cl W io pg ss s2) : QSs X cl W io pg (st :: ss) (.cons s s2) := sss_cons h1 h2
theorem rs_ex (ha : QE X cl W pg e ea) (hs : swapsWith e none pos.line X.env = pure false := by rfl) : QS X cl W io pg (.Expr e pos) (.ex ea) := ss_ex ha hs
theorem rs_ret (ha : QE X cl W pg e ea) : QS X cl W io pg (.Return (some e) pos) (.ret ea) := ss_ret ha
theorem rs_retN : QS X cl W io pg (.Return none pos) .retN := ss_retN
theorem rs_ite {as bs : List Stmt} {t : T} (hc : QT X cl W pg c t) (ha : QSs X cl W io pg as s2) (hb : QSs X cl W io pg bs s3) : QS X cl W io pg (.If c as bs pos) (.ite t s2 s3) := ss_ite hc ha hb
theorem rs_asg (i : Nat) (hN : X.N.Nodup) (ha : QE X cl W pg e ea) (hi : X.N[i]? = some x := by rfl) (hx : Loc X.env.scope x := by first | exact Or.inl rfl | exact Or.inr rfl) (hs : swapsWith e (some (.Name x p')) pos.line X.env = pure false := by rfl) (hf : X.fn x = true ∨ X.env.scope.names.lookup x = some .local := by first | exact .inl rfl | exact .inr rfl) (hio : io.contains i = false := by rfl) :
    QS X cl W io pg (.Assign [.Name x p'] e pos) (.asg i ea) := ss_asg hN hi hx ha hs hf hio
theorem rs_seti {i : Nat} {p : List PStep} {pos2 : Pos} (ho : PE X o (tP X.K cl pg.att i p)) (hn : QE X cl W0 pg b eb) (hy : QE X cl W pg e ea)
    (ha : ∀ v, assign (.Subscript o b pos2) X.env v = (do
      let ov ← holding [v] (eval o X.env)
      let iv ← holding [v, ov] (eval b X.env)
      standAt pos2
      holding [v, ov, iv] (setItem ov iv v)
      release [v, ov, iv] []) := by intro _; rfl)
    (hs : swapsWithSole [.Subscript o b pos2] e pos.line X.env = pure false := by rfl) (hw : swappedStores [.Subscript o b pos2] e X.env = pure none := by rfl) (h1 : (assignEach [.Subscript o b pos2] X.env).map (·.2) = [assign (.Subscript o b pos2) X.env] := by rfl) :
    QS X cl W io pg (.Assign [.Subscript o b pos2] e pos) (.seti i p eb ea) := ss_seti ho hn hy ha hs hw h1
theorem rs_setf {f : Str} {p3 : Pos} (i : Nat) (ok : AttOk X.K cl pg.att) (hy : QE X cl W pg e ea) (hN : X.N[i]? = some x := by rfl) (hv : Vis X.env.scope x := by first | exact Or.inl rfl | exact Or.inr (Or.inl rfl) | exact Or.inr (Or.inr rfl)) (hd : (x == ("__debug__" : Str)) = false := by rfl) (hcd : (x == ("__classdict__" : Str)) = false := by rfl)
    (hs : swapsWith e (some (.Attribute (.Name x p3) f pos')) pos.line X.env = pure false := by rfl) : QS X cl W io pg (.Assign [.Attribute (.Name x p3) f pos'] e pos) (.setf i f ea) := ss_setf ok hN hv hd hcd hy hs
theorem ri_e {tg : Expr} (ha : QE X cl W pg a ea) : QI X cl W pg tg a (.e ea) := si_e ha
theorem ri_rng1 {tg : Expr} (hm : X.mg "range" = none) (ha : QE X cl W pg a ea) (hg : Gl X "range" := by rfl) (hst : starEach [a] X.env = [(false, eval a X.env)] := by rfl) : QI X cl W pg tg (.Call (.Name "range" p') [a] [] pos) (.rng1 ea) := si_rng1 (hs := []) hg hm ha hst
theorem ri_rng2 {tg : Expr} (hm : X.mg "range" = none) (ha : QE X cl W pg a ea) (hb : QE X cl W pg b eb) (hg : Gl X "range" := by rfl) (hst : starEach [a, b] X.env = [(false, eval a X.env), (false, eval b X.env)] := by rfl) (hst2 : starEach [b] X.env = [(false, eval b X.env)] := by rfl) : QI X cl W pg tg (.Call (.Name "range" p') [a, b] [] pos) (.rng2 ea eb) := si_rng2 hg hm ha hb hst hst2
theorem rg_name (j : Nat) (hN : X.N.Nodup) (hi : X.N[j]? = some x := by rfl) (hx : Loc X.env.scope x := by first | exact Or.inl rfl | exact Or.inr rfl) (hf : X.fn x = true ∨ X.env.scope.names.lookup x = some .local := by first | exact .inl rfl | exact .inr rfl) : TgOk X cl (.Name x pos) [j] false (gName j) := tg_name hN hi hx hf
theorem tgr_name {K : PySem.W.Frag} (j : Nat) : TgR K cl [j] false (gName j) := fun {R M v d σ H ρ ρ2 Q} s e q => by
  simp only [bindTg] at e
  cases e
  refine q _ s.put (fun i hi => ?_) (by rw [List.length_set])
  have hne : j ≠ i := fun z => by subst z; simp at hi
  rw [List.getElem?_set_ne hne]
theorem rs_for {tg iter : Expr} {body : List Stmt} {js : List Nat} {tp : Bool} {g : TG} {it : It} (hp : PassesOwn (model X.prog X.w) X.A X.env X.xe) (B : Bd X W n) (hi : QI X cl W pg tg iter it) (hg : TgOk X cl tg js tp g) (hb : QSs X cl W io pg body s2)
    (hs : ∀ x, foldedSetIterable iter X.env x = pure x := by intro _; rfl) (hio : ∀ j ∈ io, js.contains j = false := by decide) : QS X cl W io pg (.For tg iter body [] pos) (.for1 js tp it s2) := ss_for1 hp B.hc hi hg hb hs hio
variable {elt tg iter : Expr} {ifs : List Expr} {scope : Scope} {js : List Nat} {tp : Bool} {g : TG} {it : It} {tc : T} {hcb : Bool}
/-- a block's tests -/
theorem rl_no : PTs X [] (tcd X.K cl (if false then some (evT pg tc) else none)) := pts_nil
theorem rl_if (h : QT X cl W0 pg c tc) : PTs X [c] (tcd X.K cl (if true then some (evT pg tc) else none)) := pts_one h
theorem re_lc (own : List (Str × Nat)) (hN : X.N.Nodup) (B : Bd X W n) (hi : QI X cl W pg tg iter it) (ok : blkC X.N X.env.scope scope own = true) (hok : TgR X.K cl js tp g)
    (hg : ∀ (s : Shared) (H : Hp) (C : Addr) (cl' : List (Str × Addr)) (fp : List Addr), PG (Xb X scope s H C cl' fp) tg g) (ht : ∀ (s : Shared) (H : Hp) (C : Addr) (cl' : List (Str × Addr)) (fp : List Addr), PTs (Xb X scope s H C cl' fp) ifs (tcd X.K cl (if hcb then some (evT pg tc) else none)))
    (he : ∀ (s : Shared) (H : Hp) (C : Addr) (cl' : List (Str × Addr)) (fp : List Addr), QE (Xb X scope s H C cl' fp) cl W0 pg elt ec) (hj : own.map (·.2) = js := by rfl) (hs : ∀ x, foldedSetIterable iter X.env x = pure x := by intro _; rfl) :
    QE X cl W pg (.ListComp elt [⟨tg, iter, ifs, 0⟩] scope pos) (.lc js tp it tc hcb ec) := se_lc B.hc hN hi (blkOk_by ok) hj hok hg ht he hs
theorem rs_asgLc {spos : Pos} (i : Nat) (own : List (Str × Nat)) (hN : X.N.Nodup) (B : Bd X W n) (hi : QI X cl W pg tg iter it) (ok : blkC X.N X.env.scope scope own = true) (hok : TgR X.K cl js tp g)
    (hg : ∀ (s : Shared) (H : Hp) (C : Addr) (cl' : List (Str × Addr)) (fp : List Addr), PG (Xb X scope s H C cl' fp) tg g) (ht : ∀ (s : Shared) (H : Hp) (C : Addr) (cl' : List (Str × Addr)) (fp : List Addr), PTs (Xb X scope s H C cl' fp) ifs (tcd X.K cl (if hcb then some (evT pg tc) else none)))
    (he : ∀ (s : Shared) (H : Hp) (C : Addr) (cl' : List (Str × Addr)) (fp : List Addr), QE (Xb X scope s H C cl' fp) cl W0 pg elt ec) (hk : X.env.scope.kind = .function)
    (hy : X.N[i]? = some x := by rfl) (hyl : X.env.scope.names.lookup x = some .local := by rfl) (hl : (p'.line == pos.line) = true := by rfl)
    (hsa : (scope.names.any fun (n, k) => n == x && (k == .local || k == .cell)) = false := by rfl) (hj : own.map (·.2) = js := by rfl) (hs : ∀ x, foldedSetIterable iter X.env x = pure x := by intro _; rfl) (hio : io.contains i = false := by rfl) :
    QS X cl W io pg (.Assign [.Name x p'] (.ListComp elt [⟨tg, iter, ifs, 0⟩] scope pos) spos) (.asg i (.lc js tp it tc hcb ec)) := ss_asgLc B.hc hN hy hyl (sw_true hk hyl hl hsa) hi (blkOk_by ok) hj hok hg ht he hs hio
end
end FB
namespace FB
open PySem L2 PyProof.Rows
section
variable {X : Cx} {cl : Nat → Addr} {W : WX} {n : Nat} {io : List Nat} {a b c e o : Expr} {es : List Expr} {pos pos' apos p' : Pos} {pg : Pg} {ea eb ec : E} {ees : Es} {x m : Str}
/-! a < b < c -/
theorem re_chain {o1 o2 : CmpOp} (B : Bd X W n) (ha : QE X cl W pg a ea) (hb : QE X cl W pg b eb) (hc : QE X cl W pg c ec) (hm : lastMarks [o1, o2] [b, c] = false := by rfl) : QE X cl W pg (.Compare a [o1, o2] [b, c] pos) (.chain o1 o2 ea eb ec) :=
  PE.of (pe_chain (opC (cl := cl) B.hu o1) (opC (cl := cl) B.hu o2) ha hb hc hm) fun σ H Q h => chain_read h
theorem Ev.bind_ok {α β : Type} {x : Ev α} {f : α → FEnv → Ev β} {b : β} {ρ : FEnv} (h : x.bind f = .ok b ρ) : ∃ a ρ1, x = .ok a ρ1 ∧ f a ρ1 = .ok b ρ := by
  cases x with
  | ok a ρ1 => exact ⟨a, ρ1, rfl, h⟩
  | exc y ρ1 => cases h
  | stuck => cases h
theorem opt_ok {α β : Type} {x : Option α} {ρ1 : FEnv} {f : α → Ev β} {b : β} {ρ : FEnv} (h : opt x ρ1 f = .ok b ρ) : ∃ a, x = some a ∧ f a = .ok b ρ := by
  cases x with
  | some a => exact ⟨a, rfl, h⟩
  | none => cases h
theorem chain_bl {o1 o2 : CmpOp} {ρ ρ' : FEnv} {z : DO} (h : evE pg (.chain o1 o2 ea eb ec) ρ = .ok z ρ') : ∃ k, z = (.bl k, .sh) := by
  obtain ⟨x, ρ1, _, h⟩ := Ev.bind_ok (x := evE pg ea ρ) h
  obtain ⟨y, ρ2, _, h⟩ := Ev.bind_ok h
  obtain ⟨r, _, h⟩ := opt_ok h
  cases r with
  | true =>
    obtain ⟨u, ρ3, _, h⟩ := Ev.bind_ok (x := evE pg ec ρ2) h
    obtain ⟨r2, _, h⟩ := opt_ok h
    cases h
    exact ⟨r2, rfl⟩
  | false =>
    cases h
    exact ⟨false, rfl⟩
theorem rt_chain {o1 o2 : CmpOp} (B : Bd X W n) (ha : QE X cl W pg a ea) (hb : QE X cl W pg b eb) (hc : QE X cl W pg c ec) (hm : lastMarks [o1, o2] [b, c] = false := by rfl) : QT X cl W pg (.Compare a [o1, o2] [b, c] pos) (.e (.chain o1 o2 ea eb ec)) :=
  PT.of (pt_chain (opC (cl := cl) B.hu o1) (opC (cl := cl) B.hu o2) ha hb hc hm) fun σ H Q ⟨ρ, R, M, s, p⟩ => by
    refine chain_read (W := W) (fa := evE pg ea) (fb := evE pg eb) (fc := evE pg ec) (o1 := o1) (o2 := o2) (Q := fun x H1 => ∃ k, x = .bl k ∧ Q k H1) ⟨ρ, R, M, s, ?_⟩
    have p : Post X.K cl repB R M W σ Q ((evE pg (.chain o1 o2 ea eb ec) ρ).bind fun x ρ1 => opt (truD x.1) ρ1 fun b => .ok b ρ1) := p
    show Post X.K cl repV R M W σ _ (evE pg (.chain o1 o2 ea eb ec) ρ)
    cases ez : evE pg (.chain o1 o2 ea eb ec) ρ with
    | ok z ρ1 =>
      rw [ez] at p
      obtain ⟨k, rfl⟩ := chain_bl ez
      intro v H1 N hr s1
      subst hr
      obtain ⟨Le, he, g⟩ := Sta.front (N := [.val v (.bl k) .sh]) s1
      exact ⟨k, bool_of g, p k H1 [] ⟨rfl, rfl⟩ (Sta.ofFront (N := []) he g.tail)⟩
    | exc y ρ1 =>
      rw [ez] at p
      exact p
    | stuck =>
      rw [ez] at p
      exact p
theorem tgr_tup {K : PySem.W.Frag} {js : List Nat} {n : Nat} (hn : js.length = n) : TgR K cl js true (gTL K n (gNames js)) := tgr_tl hn

theorem gNames_okO {K : PySem.W.Frag} {R : Hp} {M : List Item} {H : Hp} : ∀ {js : List Nat} {vs : List V} {ds : List D} {os : List O} {σ : L2.St} {ρ : FEnv} {Q : L2.St → Hp → Prop}, vs.length = ds.length → ds.length = os.length → js.length = ds.length → Sta K cl σ H R ρ (vals vs ds os ++ M) →
    (∀ σ', Sta K cl σ' H R ((js.zip (ds.zip os)).foldl (fun ρ x => ρ.set x.1 (some x.2)) ρ) M → (∀ i, js.contains i = false → σ'[i]? = σ[i]?) → σ'.length = σ.length → Q σ' H) → gNames js vs σ H Q
  | [], [], [], [], σ, ρ, Q, _, _, _, s, q => ⟨rfl, q σ s (fun _ _ => rfl) rfl⟩
  | j :: js, v :: vs, d :: ds, o :: os, σ, ρ, Q, h1, h2, h3, s, q => by
    refine ⟨v, vs, rfl, gNames_okO (Nat.succ.inj h1) (Nat.succ.inj h2) (Nat.succ.inj h3) (Sta.put (d := d) (o := o) s) fun σ' s' k hl => ?_⟩
    refine q σ' s' (fun i hi => ?_) (by rw [hl, List.length_set])
    simp only [List.contains_cons, Bool.or_eq_false_iff] at hi
    rw [k i hi.2]
    have hne : j ≠ i := fun z => by subst z; simp at hi
    rw [List.getElem?_set_ne hne]
  | [], _ :: _, [], _, _, _, _, h1, _, _, _, _ => by cases h1
  | [], _, _ :: _, _, _, _, _, _, _, h3, _, _ => by cases h3
  | [], _, [], _ :: _, _, _, _, _, h2, _, _, _ => by cases h2
  | _ :: _, _, [], _, _, _, _, _, _, h3, _, _ => by cases h3
  | _ :: _, [], _ :: _, _, _, _, _, h1, _, _, _, _ => by cases h1
  | _ :: _, _ :: _, _ :: _, [], _, _, _, _, h2, _, _, _ => by cases h2
/-- a, b = e, each part as it is owned -/
theorem rs_unpO {es : List Expr} {kk : Nat} {js : List Nat} (B : Bd X W n) (ha : QE X cl W pg e ea) (hg : TgOk X cl (.Tuple es kk p') js true (gTL X.K js.length (gNames js))) (hio : ∀ j ∈ io, js.contains j = false)
    (hs : swapsWithSole [.Tuple es kk p'] e pos.line X.env = pure false := by rfl) (hw : swappedStores [.Tuple es kk p'] e X.env = pure none := by rfl) (h1 : (assignEach [.Tuple es kk p'] X.env).map (·.2) = [assign (.Tuple es kk p') X.env] := by rfl) :
    QS X cl W io pg (.Assign [.Tuple es kk p'] e pos) (.unpO js ea) :=
  PS.of (ps_asg ha hg.pg hs hw h1) fun Dn σ H ⟨ρ, R, M, k, s, hk, p⟩ => by
    have p : PostS X.K cl R M W io k Dn ((evE pg ea ρ).fl fun x ρ1 => (match bindO js x.1 x.2 ρ1 with
      | some ρ2 => .nx ρ2
      | none => .stuck)) := p
    refine ⟨ρ, R, M, s, (p.bindF hk).mono fun v H1 ⟨x, N, ρ1, hr, s1, p1⟩ => ?_⟩
    subst hr
    split at p1
    · rename_i ρ2 eb
      obtain ⟨d, o⟩ := x
      have old : bindTg js true d ρ1 = some ρ2 → gTL X.K js.length (gNames js) v σ H1 _ := fun eb => by
        have s2 : Sta X.K cl σ H1 R ρ1 ([.val v d .sh] ++ M) := Sta.item (N := [.val v d o]) (N' := [.val v d .sh]) s1 fun L g => g.share
        exact hg.ok s2 eb fun σ' s3 hke hl => p1 _ _ s3 (hk.other hio hke)
      by_cases hto : ∃ ds os, d = .tup ds ∧ o = .node os
      · obtain ⟨ds, os, rfl, rfl⟩ := hto
        simp only [bindO] at eb
        split at eb
        · rename_i hl
          obtain ⟨hl1, hl2⟩ := hl
          cases eb
          obtain ⟨Le, he, g⟩ := Sta.front (N := [.val v (.tup ds) (.node os)]) s1
          obtain ⟨a, vs, rfl, l1, l2, g2⟩ := g.unpackTupN
          have hc := g2.cellAt
          have s4 : Sta X.K cl σ H1 R ρ1 (vals vs ds os ++ M) := Sta.ofFront (N := vals vs ds os) he g2.tail
          exact Or.inl ⟨a, vs, rfl, Or.inl (Or.inl hc), by rw [l1, hl1], gNames_okO l1 l2 hl1 s4 fun σ' s5 hke hl => p1 _ _ s5 (hk.other hio hke)⟩
        · cases eb
      · refine old ?_
        rw [← eb]
        cases d <;> cases o <;> first | rfl | exact absurd ⟨_, _, rfl, rfl⟩ hto
    · exact p1.elim
/-- a, b = e -/
theorem rs_unp {es : List Expr} {kk : Nat} {js : List Nat} (B : Bd X W n) (ha : QE X cl W pg e ea) (hg : TgOk X cl (.Tuple es kk p') js true (gTL X.K js.length (gNames js))) (hio : ∀ j ∈ io, js.contains j = false)
    (hs : swapsWithSole [.Tuple es kk p'] e pos.line X.env = pure false := by rfl) (hw : swappedStores [.Tuple es kk p'] e X.env = pure none := by rfl) (h1 : (assignEach [.Tuple es kk p'] X.env).map (·.2) = [assign (.Tuple es kk p') X.env] := by rfl) :
    QS X cl W io pg (.Assign [.Tuple es kk p'] e pos) (.unp js ea) :=
  PS.of (ps_asg ha hg.pg hs hw h1) fun Dn σ H ⟨ρ, R, M, k, s, hk, p⟩ => by
    have p : PostS X.K cl R M W io k Dn ((evE pg ea ρ).fl fun x ρ1 => (match bindTg js true x.1 ρ1 with
      | some ρ2 => .nx ρ2
      | none => .stuck)) := p
    refine ⟨ρ, R, M, s, (p.bindF hk).mono fun v H1 ⟨x, N, ρ1, hr, s1, p1⟩ => ?_⟩
    subst hr
    split at p1
    · rename_i ρ2 eb
      have s2 : Sta X.K cl σ H1 R ρ1 ([.val v x.1 .sh] ++ M) := Sta.item (N := [.val v x.1 x.2]) (N' := [.val v x.1 .sh]) s1 fun L g => g.share
      exact hg.ok s2 eb fun σ' s3 hke hl => p1 _ _ s3 (hk.other hio hke)
    · exact p1.elim
end
end FB
namespace FB
open PySem L2 PyProof.Rows
/-- a program by its tables -/
structure Tab where
  defs : Nat → FDef
  ini : Nat → Nat
  mth : Nat → Str → Option Nat
  att : Nat → Str → Bool
  sub : Nat → Nat → Option Bool
  isk : Kd → Ty → Option Bool
  gl : Nat → D
  fuel : Nat
  tb : Nat → List (Str × Int) := fun _ => []
  dfs : Nat → List (List Const) := fun _ => []
def Tab.pg (t : Tab) (fn mak : Nat → List DO → Rt) : Pg := { fn := fn, mak := mak, mth := t.mth, att := t.att, iof := fun i => (t.defs i).io, sub := t.sub, isk := t.isk, gl := t.gl, tb := t.tb, fuel := t.fuel, cur := none }
def Tab.fnAt (t : Tab) : Nat → Nat → List DO → Rt
  | 0, _ => fun _ => .stuck
  | 1, _ => fun _ => .stuck
  | n + 2, i => fnSem (t.pg (t.fnAt (n + 1)) fun c => makSem c (t.fnAt n (t.ini c))) (t.defs i)
def Tab.at (t : Tab) (n : Nat) : Pg := t.pg (t.fnAt (n + 1)) fun c => makSem c (t.fnAt n (t.ini c))
section
variable {P : Program} {w : World} {K : PySem.W.Frag} {mg : Str → Option Value} {base : Heap} {cl A : Nat → Addr} {t : Tab} {nf : Nat}
/-- a def of the text: its object, its parameters -/
def FunE (K : PySem.W.Frag) (x qual : Str) (st : Stmt) (f : Addr) (ps : List Str) (D : List (List Const) := []) : Prop := ∃ fd, FunZ K x qual st f fd ∧ BD K fd ps D
theorem fnSem_np {pg : Pg} {d : FDef} : ∀ xs, fnSem pg d xs ≠ .stuck → xs.length = d.np := fun xs h => by
  by_cases e : xs.length = d.np
  · exact e
  · exact absurd (by unfold fnSem; rw [if_neg e]) h
theorem fnj_stuck {n np : Nat} {io : List Nat} {f : Addr} {x qual : Str} {st : Stmt} {ps : List Str} {D : List (List Const)} (F : FunE K x qual st f ps D) (hp : ps.length = np) (hio : ∀ j ∈ io, j < np) : FnJ P w K mg base cl n f np io (fun _ => .stuck) D := by
  obtain ⟨fd, F, b⟩ := F
  refine ⟨⟨fd, ps, ⟨fun vs H Q E h => ?_, fun A outer s H args us vs Q E hr e0 hb r hsp => ?_⟩, b⟩, fun xs h => absurd rfl h, hio⟩
  · obtain ⟨R, M, xs, h1, _⟩ := h
    rw [h1, hp]
  · obtain ⟨R, M, xs, _, _, _, z⟩ := hsp
    exact z.elim
/-- what the text tells of the i-th def -/
def DefE (K : PySem.W.Frag) (A : Nat → Addr) (t : Tab) (i : Nat) : Prop := ∃ x qual st ps, FunE K x qual st (A i) ps (t.dfs i) ∧ ps.length = (t.defs i).np ∧ ∀ j ∈ (t.defs i).io, j < (t.defs i).np
abbrev JJ (P : Program) (w : World) (K : PySem.W.Frag) (mg : Str → Option Value) (base : Heap) (cl A : Nat → Addr) (t : Tab) (n i : Nat) : Prop := FnJ P w K mg base cl n (A i) (t.defs i).np (t.defs i).io (t.fnAt n i) (t.dfs i)
theorem levels (hd : ∀ i, i < nf → DefE K A t i)
    (H : ∀ n, (∀ i, i < nf → JJ P w K mg base cl A t n i) → (∀ i, i < nf → JJ P w K mg base cl A t (n + 1) i) → ∀ i, i < nf → JJ P w K mg base cl A t (n + 2) i) :
    ∀ n, (∀ i, i < nf → JJ P w K mg base cl A t n i) ∧ (∀ i, i < nf → JJ P w K mg base cl A t (n + 1) i)
  | 0 => ⟨fun i hi => let ⟨_, _, _, _, F, h1, h2⟩ := hd i hi; fnj_stuck F h1 h2, fun i hi => let ⟨_, _, _, _, F, h1, h2⟩ := hd i hi; fnj_stuck F h1 h2⟩
  | n + 1 => let ⟨h1, h2⟩ := levels hd H n; ⟨h2, H n h1 h2⟩
theorem fnj_of {n : Nat} {i : Nat} {ps : List Str} {fd : FuncData} (b : BD K fd ps (t.dfs i)) (hio : ∀ j ∈ (t.defs i).io, j < (t.defs i).np) (h : FnR P w K mg base (L2.CX P w) (n + 2) (A i) fd ps (spF K cl (t.defs i).np (t.defs i).io (t.fnAt (n + 2) i))) : JJ P w K mg base cl A t (n + 2) i :=
  ⟨⟨fd, ps, h, b⟩, fnSem_np, hio⟩
theorem mkJ_of {n c : Nat} (hn : ∀ i, i < nf → JJ P w K mg base cl A t n i) (hi : t.ini c < nf) (hM : Mk K (cl c) (A (t.ini c))) (hio : (t.defs (t.ini c)).io = [0]) : MkJ P w K mg base cl (n + 1) c ((t.at n).mak c) (t.dfs (t.ini c)) :=
  ⟨⟨_, n, _, _, hM, by have h := hn _ hi; unfold JJ at h; rw [hio] at h; exact h, Nat.le_refl _, rfl⟩⟩
end
theorem Bd.blk {X : Cx} {W : WX} {n : Nat} {scope : Scope} {s : Shared} {H : Hp} {C : Addr} {cl' : List (Str × Addr)} {fp : List Addr} (B : Bd X W n) : Bd (Xb X scope s H C cl' fp) W0 n := ⟨B.hr, B.hc, L2.takes0⟩
theorem Bd.w0 {X : Cx} {W : WX} {n : Nat} (B : Bd X W n) : Bd X W0 n := ⟨B.hr, B.hc, L2.takes0⟩
theorem cx_none {P : Program} {w : World} {H : Hp} {s : Shared} {e : Value} {s' : Shared} (h : L2.CX P w [] H s (fun _ _ _ => False) e s') : False := by
  obtain ⟨_, _, _, _, _, _, _, _, _, _, _, _, z⟩ := h
  exact z.elim
/-- the law's own promise -/
def spLaw (K : PySem.W.Frag) : Sp := fun vs H Q _ => ∃ (a : Addr) (ns : List Int), vs = [.ref a] ∧ SqL K H a (ns.map V.int) ∧ ns.length ≤ 63 ∧ ∀ H', Q (.bl true) H'
theorem rss_ints {K : PySem.W.Frag} {cl : Nat → Addr} {P : Hp} : ∀ ns : List Int, Rss K cl P (ns.map V.int) (ns.map D.int)
  | [] => .nil
  | n :: ns => .cons (.int n) (rss_ints ns)
theorem law_sp {K : PySem.W.Frag} {cl : Nat → Addr} {g : List DO → Rt} (h : ∀ ns : List Int, ns.length ≤ 63 → g [(.frz (ns.map .int), .sh)] = .ok (.bl true) .sh []) : ∀ vs H Q E, spLaw K vs H Q E → spF K cl 1 [] g vs H Q E := by
  rintro vs H Q E ⟨a, ns, rfl, hS, hl, k⟩
  refine ⟨H, [], [(.frz (ns.map .int), .sh)], rfl, rfl, ?_, ?_⟩
  · exact ⟨H, [], Ex.refl H, Ex.refl H, (fun _ z => nomatch z), List.nodup_nil, .val (f := []) (.sh (.frz hS (rss_ints ns))) .nil⟩
  · rw [h ns hl]
    refine ⟨rfl, fun v H' g' => ?_⟩
    have ev : v = .bl true := bool_of g'
    rw [ev]
    exact k H'
/-- a def of the text, all that is asked -/
structure FunF (K : PySem.W.Frag) (x qual : Str) (st : Stmt) (f : Addr) (ps : List Str) (D : List (List Const) := []) : Prop where
  ex : FunE K x qual st f ps D
  kp : PySem.W.keepIn K (.ref f) = true
theorem funF_mk {K : PySem.W.Frag} {x qual : Str} {st : Stmt} {f : Addr} {fd : FuncData} {ps : List Str} (F : Fun K x qual st f fd)
    (h : ∀ (kV doc pm : Value) (an : Option Addr) (cdv ct : Value) (us : List Value), us.length = ps.length → bindArgs (PySem.W.fnOf x qual (defArgs st) (defBody st) (defScope st) .none kV doc pm an cdv ct) ⟨us, []⟩ = pure (ps.zip us)) : FunF K x qual st f ps :=
  ⟨⟨fd, funZ_of F, .nil (F.binds h)⟩, F.kp⟩
/-- a module's int -/
def GInt (mg : Str → Option Value) (x : Str) (v : Int) : Prop := ∃ t, mg x = some (.int v t)
theorem re_gi {X : Cx} {cl : Nat → Addr} {W : WX} {pg : Pg} {x : Str} {pos : Pos} {v : Int} (k : Nat) (h : GInt X.mg x v) (hv : pg.gl k = .int v := by rfl) (hg : Gl X x := by rfl) (hd : (x == ("__debug__" : Str)) = false := by rfl) : QE X cl W pg (.Name x pos) (.g k) := by
  obtain ⟨t, h⟩ := h
  exact re_g k h ⟨.int v, ⟨t, rfl⟩, fun P => by rw [hv]; exact .int v⟩ hg hd
/-- isinstance of an own class' object, true -/
theorem kit_ref {K : PySem.W.Frag} {C D' : Addr} (h1 : PySem.W.isClsIn K D' = true) (h2 : PySem.W.typeIn K (.ref D') = some (.type "type")) (h3 : PySem.W.subIn K (.ref C) (.ref D') = some true) : PySem.W.kitOne K (.ref C) (.ref D') = some true := by
  unfold PySem.W.kitOne
  split
  · rfl
  · have h1 : (PySem.W.clsIn K D').isSome = true := h1
    unfold PySem.W.kitCls
    simp only [h1, h2, h3, beq_self_eq_true, Bool.and_self, if_true]
end FB
namespace FB
open PySem PySem.Spec PyProof.Rows L2
theorem SaysN.tabs {fn : List He.FnD} {ds : List He.DefD} {ex : PySem.W.Frag → List Bool} {ts : List TabN} {w : World} {K : PySem.W.Frag} (c : SaysN fn ds ex ts w K) (i : Nat) {t : TabN} (h : ts[i]? = some t) : He.dicW K (He.ga K t.1) = some (He.keysIn w.params (t.2.map (·.1))) := by
  have e2 := congrArg (fun z : List (Option (List (Option (Str × Int)))) => z[i]?) c.tab
  simp only [List.getElem?_map, h, Option.map_some] at e2
  exact Option.some.inj e2
theorem SaysN.dfl {fn : List He.FnD} {ds : List He.DefD} {ex : PySem.W.Frag → List Bool} {ts : List TabN} {w : World} {K : PySem.W.Frag} (c : SaysN fn ds ex ts w K) (i : Nat) {d : He.DefD} (h : ds[i]? = some d) : He.fnW K d.at_ = d.val := by
  have e2 := congrArg (fun z : List He.FnW => z[i]?) c.dfs
  simp only [List.getElem?_map, h, Option.map_some] at e2
  exact Option.some.inj e2
theorem SaysN.at {fn : List He.FnD} {ds : List He.DefD} {ex : PySem.W.Frag → List Bool} {ts : List TabN} {w : World} {K : PySem.W.Frag} (c : SaysN fn ds ex ts w K) (i : Nat) {b : Bool} (h : (ex K)[i]? = some b) : b = true :=
  List.all_eq_true.mp c.all b (List.mem_of_getElem? h)
/-- a fact, read -/
theorem SaysN.get {fn : List He.FnD} {ds : List He.DefD} {ex : PySem.W.Frag → List Bool} {ts : List TabN} {w : World} {K : PySem.W.Frag} (c : SaysN fn ds ex ts w K) (i : Nat) {p : Prop} {d : Decidable p} (h : (ex K)[i]? = some (@decide p d)) : p := of_decide_eq_true (c.at i h)
theorem walk_ofW {l : PySem.W.OpenLaw} {n k : Nat} {q : Program} {loose : List Str} {XP : (Str → Option Value) → Heap → Prop} {YP : World → Heap → Prop} {d : DefRec} {CX : World → CXT} {x : Str}
    (hn : l.most = some n) (hn2 : n ≤ sizeLine) (hdf : d.params.defaults = []) (hr : Room k callerA)
    (F : ∀ (w : World) (mg : Str → Option Value) (fa : Addr) (h : Heap), YP w h → h.Ns mainGlobals mg → mg d.name = some (.ref fa) →
      ∃ (K : PySem.W.Frag) (fd : FuncData) (sp : Sp), K.In h ∧ (∀ (s : Shared) (u : Value), BindsTo s fd ⟨[u], []⟩ [(x, u)]) ∧
        (∀ (H : Hp) (a : Addr) (ns : List Int), ns.length ≤ n → Only H → SqL K H a (ns.map V.int) → sp [.ref a] H (fun v _ => v = .bl true) fun _ _ _ => False) ∧
        ∀ base : Heap, K.In base → base.Ns mainGlobals mg → FnOk l.prog w K mg base (CX w) k fa fd [x] sp)
    (hCX : ∀ (w : World) (H : Hp) (s : Shared) (e : Value) (s' : Shared), CX w [] H s (fun _ _ _ => False) e s' → False) :
    PySem.W.WalkO q loose XP YP l.row.toRowW d [] (fun f vs => PySem.call f vs) := by
  refine Att.attach_call hn hdf fun w s₀ s₁ mg mb fa o pm cd doc a vs ns G Y ho hd hcd hmg hobj hints hlen hg => ?_
  obtain ⟨K, fd, sp, KX, hb, hsp, hF⟩ := F w mg fa _ Y G.T.g hmg
  exact law_call KX G.T.g G.T.b G.T.builtins G.T.nolimit hg hobj hints (Nat.le_trans hlen hn2) hr hF hb (fun H hO hS => hsp H a ns hlen hO hS) fun H e s' => hCX w H s₁ e s'
theorem clsAt_ok {K : PySem.W.Frag} {C : Addr} {m : Str} {f : Addr} (h : clsAt K C m f = true) : PySem.W.findCls K (.ref C) (.type "type") m = some (.val (.ref f)) := by
  unfold clsAt at h
  split at h
  · rename_i a e
    rw [e, of_decide_eq_true h]
  · cases h
end FB
namespace FB
theorem allOf_at {bs : List Bool} (h : allOf bs = true) (i : Nat) {b : Bool} (e : bs[i]? = some b) : b = true := List.all_eq_true.mp h b (List.mem_of_getElem? e)
theorem allOf_get {bs : List Bool} (h : allOf bs = true) (i : Nat) {p : Prop} {d : Decidable p} (e : bs[i]? = some (@decide p d)) : p := of_decide_eq_true (allOf_at h i e)
end FB
namespace FB
open PySem L2 PyProof.Rows
/-! ### exceptions: raised, caught, asked -/
section
variable {X : Cx} {cl : Nat → Addr} {W : WX} {nn : Nat} {io : List Nat} {pg : Pg}
/-- an own error class: it may be raised with a text -/
structure ErrC (K : PySem.W.Frag) (C : Addr) : Prop where
  ex : PySem.W.excIn K C He.veBase "ValueError.__new__" = true
  kp : PySem.W.keepIn K (.ref C) = true
  sb : PySem.W.subIn K (.ref C) (.type "BaseException") = some true
  ty : PySem.W.typeIn K (.ref C) = some (.type "type")
theorem rs_raise {x m : Str} {j : Nat} {p p2 pos pos' : Pos} {e : E} (c : Nat) (B : Bd X W nn) (C : ErrC X.K (cl c)) (hm : X.mg x = some (.ref (cl c))) (hg : Gl X x := by rfl) (hdb : (x == ("__debug__" : Str)) = false := by decide) :
    QS X cl W io pg (.Raise (some (.Call (.Name x p) [.Constant (.str m) j p2] [] pos)) none pos') (.rais c e false) :=
  PS.of (ps_raise B.hc B.tk (pmk_own PySem.F.excBase_ValueError C.ex hm C.kp (raises_own C.sb C.ty) hg hdb)) fun D σ H ⟨ρ, R, M, k, s, hk, p⟩ => p σ H none s hk (.inl ⟨rfl, rfl⟩)
theorem Bd.tr {pn : List (Addr × Obj)} {xe : Value → Shared → Prop} {W' : WX} (B : Bd X W nn) (tk : Takes (X.tr pn xe) W') : Bd (X.tr pn xe) W' nn := ⟨B.hr, B.hc, tk⟩
/-! suites -/
/-- slot i holds the exception -/
def tS1 (K : PySem.W.Frag) (cl : Nat → Addr) (W : WX) (io : List Nat) (i : Nat) (a : Addr) (f : FEnv → Fl) : TS := fun D σ H => ∃ ρ R M k, Sta K cl σ H R ρ M ∧ Kp io k σ ∧ k i = some (some (.ref a)) ∧ PostS K cl R M W io k D (f ρ)
def tB1 (i : Nat) (a : Addr) (b : Bool) : TE := fun σ H Q => σ[i]? = some (some (.ref a)) ∧ Q (.bl b) H
abbrev QX (X : Cx) (cl : Nat → Addr) (io : List Nat) (i : Nat) (a : Addr) (pg : Pg) (ss : List Stmt) (s : Ss) : Prop := PSs X ss (tS1 X.K cl W0 io i a (evSs pg s))
def PB (X : Cx) (i : Nat) (a : Addr) (sub : Nat → Nat → Option Bool) (c : Nat) (e : Expr) (b : XB) : Prop := ∀ r, evX sub c b = some r → PE X e (tB1 i a r)
variable {st : Stmt} {ss : List Stmt} {s : S} {s2 sb sh : Ss} {i : Nat} {a : Addr}
theorem rx_nil : QX X cl io i a pg [] .nil := PSs.of pss_nil fun D σ H ⟨ρ, R, M, k, s, hk, _, p⟩ => p σ H s hk
theorem rx_cons (h1 : QS X cl W0 io pg st s) (h2 : QX X cl io i a pg ss s2) : QX X cl io i a pg (st :: ss) (.cons s s2) :=
  PSs.of (pss_cons h1 h2) fun D σ H ⟨ρ, R, M, k, s', hk, e, p⟩ => by
    refine ⟨ρ, R, M, k, s', hk, ?_⟩
    have p : PostS X.K cl R M W0 io k D ((evS pg s ρ).seq (evSs pg s2)) := p
    cases ef : evS pg s ρ with
    | nx ρ1 =>
      rw [ef] at p
      exact fun σ1 H1 s1 hk1 => ⟨ρ1, R, M, k, s1, hk1, e, p⟩
    | br ρ1 => rw [ef] at p; exact p
    | ct ρ1 => rw [ef] at p; exact p
    | rt d o ρ1 => rw [ef] at p; exact p
    | exc x ρ1 => rw [ef] at p; exact p
    | stuck => rw [ef] at p; exact p
theorem rx_asg {x : Str} {e : Expr} {p' pos : Pos} {xx : Exn} {b : XB} (j : Nat) (hcur : pg.cur = some xx) (h : xx.fs = [] → PB X i a pg.sub xx.c e b) (h2 : QX X cl io i a pg ss s2) (hi0 : i ∈ io) (hN : X.N.Nodup) (hi : X.N[j]? = some x) (hx : Loc X.env.scope x)
    (hs : swapsWith e (some (.Name x p')) pos.line X.env = pure false) (hf : X.fn x = true ∨ X.env.scope.names.lookup x = some .local) (hio : io.contains j = false) :
    QX X cl io i a pg (.Assign [.Name x p'] e pos :: ss) (.cons (.asgX j b) s2) := by
  have vac : (xx.fs ≠ [] ∨ evX pg.sub xx.c b = none) → QX X cl io i a pg (.Assign [.Name x p'] e pos :: ss) (.cons (.asgX j b) s2) := fun hv => by
    refine ⟨fun pins s' σ H D I ⟨ρ, R, M, k, s, hk, e', p⟩ => ?_⟩
    have p : PostS X.K cl R M W0 io k D (((match pg.cur with
      | some x => if x.fs = [] then opt' (evX pg.sub x.c b) fun b => .nx (ρ.set j (some (.bl b, .sh))) else .stuck
      | none => .stuck) : Fl).seq (evSs pg s2)) := p
    rw [hcur] at p
    rcases hv with hv | hv
    · simp only [if_neg hv] at p
      exact p.elim
    · simp only [hv, opt'] at p
      split at p <;> exact p.elim
  by_cases h0 : xx.fs = []
  · cases eb : evX pg.sub xx.c b with
    | none => exact vac (.inr eb)
    | some r =>
      refine PSs.of (pss_cons (ps_set hN hi hx (h h0 r eb) hs hf) h2) fun D σ H ⟨ρ, R, M, k, s, hk, e', p⟩ => ?_
      have p : PostS X.K cl R M W0 io k D (((match pg.cur with
        | some x => if x.fs = [] then opt' (evX pg.sub x.c b) fun b => .nx (ρ.set j (some (.bl b, .sh))) else .stuck
        | none => .stuck) : Fl).seq (evSs pg s2)) := p
      rw [hcur] at p
      simp only [eb, opt', if_pos h0] at p
      refine ⟨(hk i hi0).trans e', ?_⟩
      have s1 : Sta X.K cl σ H R ρ ([.val (.bl r) (.bl r) .sh] ++ M) := Sta.item (N := []) (N' := [.val (.bl r) (.bl r) .sh]) s fun L g => g.flat (.bl r)
      exact ⟨_, R, M, k, s1.put, hk.set hio, e', p⟩
  · exact vac (.inl h0)
/-! what is asked of it -/
theorem pb_not {e : Expr} {b : XB} {pos : Pos} {sub : Nat → Nat → Option Bool} {c : Nat} (h : PB X i a sub c e b) : PB X i a sub c (.UnaryOp .Not e pos) (.not b) := fun r hr => by
  cases eb : evX sub c b with
  | none => simp [evX, eb] at hr
  | some q =>
    have hr : (evX sub c b).map (fun z => !z) = some r := hr
    rw [eb] at hr
    cases hr
    exact PE.of (pe_not (h q eb)) fun σ H Q ⟨e1, e2⟩ => ⟨e1, q, rfl, e2⟩
theorem pb_one {e : Expr} {b : XB} {pos : Pos} {sub : Nat → Nat → Option Bool} {c : Nat} (h : PB X i a sub c e b) : PB X i a sub c (.BoolOp .And [e] pos) b := fun r hr => pe_one (h r hr)
theorem pb_and {e e2 : Expr} {rest : List Expr} {b b2 : XB} {pos : Pos} {sub : Nat → Nat → Option Bool} {c : Nat} (h : PB X i a sub c e b) (h2 : PB X i a sub c (.BoolOp .And (e2 :: rest) pos) b2) : PB X i a sub c (.BoolOp .And (e :: e2 :: rest) pos) (.and b b2) := fun r hr => by
  cases eb : evX sub c b with
  | none => simp [evX, eb] at hr
  | some q =>
    cases q with
    | true =>
      simp [evX, eb] at hr
      exact PE.of (pe_and (h true eb) (h2 r hr)) fun σ H Q ⟨e1, e2⟩ => ⟨e1, true, rfl, by rw [if_pos rfl]; exact ⟨e1, e2⟩⟩
    | false =>
      simp [evX, eb] at hr
      subst hr
      refine ⟨fun pins s σ H Q I hq => ?_⟩
      obtain ⟨e1, e2'⟩ := hq
      cases eb2 : evX sub c b2 with
      | some q2 => exact (pe_and (h false eb) (h2 q2 eb2)).run pins s σ H Q I ⟨e1, false, rfl, by rw [if_neg (by decide)]; exact e2'⟩
      | none => exact (pe_and (tb := fun _ _ _ => False) (h false eb) ⟨fun pins s σ H Q I hq => hq.elim⟩).run pins s σ H Q I ⟨e1, false, rfl, by rw [if_neg (by decide)]; exact e2'⟩
/-- what isinstance tells of an exception's class -/
structure IsxOk (K : PySem.W.Frag) (cl : Nat → Addr) (sub : Nat → Nat → Option Bool) (k : Nat) (cv : V) (u : Value) : Prop where
  cv : ∀ z, RelV cv z → z = u
  ok : ∀ c b, sub c k = some b → ExcC K (cl c) ∧ PySem.W.kitOne K (.ref (cl c)) u = some b
theorem pb_is {x n : Str} {ce : Expr} {p' pn' pos : Pos} {oe : Obj} {pn : List (Addr × Obj)} {sub : Nat → Nat → Option Bool} {c k : Nat} {cv : V} {u : Value} (ok : IsxOk X.K cl sub k cv u) (hz : Zc (.ref (cl c)) none oe) (hf : ∃ vs, oe.data = .fields vs)
    (hm : X.mg x = none) (hc : PE (X.suite a ((a, oe) :: pn)) ce (tC cv)) (hv : bootBuiltins x = some (.builtin "isinstance")) (hg : Gl X x) (hn : x ≠ "__name__") (hdb : (x == ("__debug__" : Str)) = false)
    (hN : X.N[i]? = some n) (hvs : Vis X.env.scope n) (hd : (n == ("__debug__" : Str)) = false) (hcd : (n == ("__classdict__" : Str)) = false)
    (he : starEach [.Name n pn', ce] X.env = (false, eval (.Name n pn') X.env) :: starEach [ce] X.env) (he2 : starEach [ce] X.env = (false, eval ce X.env) :: starEach [] X.env) (hpl : (backTo pos (starEach [ce] X.env)).any (·.1) = false) :
    PB (X.suite a ((a, oe) :: pn)) i a sub c (.Call (.Name x p') [.Name n pn', ce] [] pos) (.is k) := fun r hr => by
  have hr : sub c k = some r := hr
  obtain ⟨h1, h2⟩ := ok.ok c r hr
  exact PE.of (pe_callB (X := X.suite a ((a, oe) :: pn)) (call_isE h1 hz hf) hg hm hv (pa_cons (pe_var (X := X.suite a ((a, oe) :: pn)) hN hvs hd hcd) (pa_cons hc pa_nil he2) he) hn hdb he hpl) fun σ H Q ⟨e1, e2⟩ =>
    ⟨.ref a, e1, cv, u, r, rfl, ok.cv, h2, e2⟩
/-! try -/
/-- what an except clause tells of an exception's class -/
def ExmOk (K : PySem.W.Frag) (cl : Nat → Addr) (sub : Nat → Nat → Option Bool) (c : Nat) : Prop := ∀ c' b, sub c' c = some b → PySem.W.exmOne K (.ref (cl c')) (.ref (cl c)) = some b
theorem Sta.gone {K : PySem.W.Frag} {σ : L2.St} {H R : Hp} {ρ : FEnv} {M : List Item} (s : Sta K cl σ H R ρ M) (i : Nat) (x : Option V) : Sta K cl (σ.set i x) H R (ρ.set i none) M := by
  obtain ⟨Le, a, b⟩ := s
  obtain ⟨M1, L', p, _, e⟩ := a.del i
  have q : (Le ++ M).Perm (M1 ++ (L' ++ M)) := (p.append_right M).trans (by rw [List.append_assoc])
  exact ⟨L', e x, (b.perm q).tailA⟩
theorem Kp.unset {io : List Nat} {k : Nat → Option (Option V)} {σ : L2.St} {i : Nat} {x : Option V} (h : Kp io k σ) (n : io.contains i = false) : Kp io k (σ.set i x) := h.set n
/-- the suite's ends are the try's -/
theorem endX_some {K : PySem.W.Frag} {R : Hp} {M : List Item} {Wout : WX} {io : List Nat} {k k' : Nat → Option (Option V)} {D : Ends} {i : Nat} {r : Fl} (hio : io.contains i = false) (hk : ∀ j ∈ io, k' j = k j) (p : PostS K cl R M Wout io k D (endX (some i) r)) :
    PostS K cl R M W0 (i :: io) k' { nx := fun σ' H' => D.nx (σ'.set i none) H', rt := D.rt, bk := fun σ' H' => D.bk (σ'.set i none) H', ct := fun σ' H' => D.ct (σ'.set i none) H' } r := by
  have kp : ∀ {σ : L2.St}, Kp (i :: io) k' σ → Kp io k (σ.set i none) := fun {σ} h => by
    refine Kp.set (fun j hj => ?_) hio
    rw [← hk j hj]
    exact h j (List.mem_cons_of_mem _ hj)
  cases r with
  | nx ρ => exact fun σ H s h => p _ _ (s.gone i none) (kp h)
  | br ρ => exact fun σ H s h => p _ _ (s.gone i none) (kp h)
  | ct ρ => exact fun σ H s h => p _ _ (s.gone i none) (kp h)
  | rt d o ρ => exact fun v σ H s h => p v _ _ (s.gone i none) (kp h)
  | exc x ρ => exact p.elim
  | stuck => exact p.elim
theorem endX_none {K : PySem.W.Frag} {R : Hp} {M : List Item} {Wout : WX} {io : List Nat} {k : Nat → Option (Option V)} {D : Ends} {r : Fl} (p : PostS K cl R M Wout io k D (endX none r)) : PostS K cl R M W0 io k D r := by
  cases r with
  | nx ρ => exact p
  | br ρ => exact p
  | ct ρ => exact p
  | rt d o ρ => exact p
  | exc x ρ => exact p.elim
  | stuck => exact p.elim
variable {x n : Str} {c : Nat} {body suite : List Stmt} {b₀ : Stmt} {np pos pos' : Pos}
theorem rs_tryAs (i : Nat) (B : Bd X W nn) (hs : X.stack = X.env :: X.outer) (hf : X.env.frame = some X.env.locals) (hN : X.N.Nodup) (hi : X.N[i]? = some n) (hln : X.env.kindOf n = some .local) (hc : Names X x (.ref (cl c))) (ok : ExmOk X.K cl pg.sub c) (hio : io.contains i = false)
    (hb : ∀ (W : WX) (pn : List (Addr × Obj)) (xe : Value → Shared → Prop), Takes (X.tr pn xe) W → PassesOwn (model X.prog X.w) X.A X.env xe → QSs (X.tr pn xe) cl W io pg body sb)
    (hsu : ∀ (a : Addr) (oe : Obj) (xx : Exn) (pn : List (Addr × Obj)), (xx.fs = [] → Zc (.ref (cl xx.c)) none oe) → (∃ vs, oe.data = .fields vs) → QX (X.suite a ((a, oe) :: pn)) cl (i :: io) i a { pg with cur := some xx } (b₀ :: suite) sh) :
    QS X cl W io pg (.Try body [.ExceptHandler (some (.Name x np)) (some n) (b₀ :: suite) pos'] [] [] pos) (.tryc sb (.cons c (some i) sh .nil)) :=
  PS.of (ps_try_as (i := i) (tb := fun W => tS X.K cl W io (evSs pg sb)) (ts := fun a cls d D σ H => ∃ xx : Exn, cls = .ref (cl xx.c) ∧ (xx.fs = [] → d = none) ∧ tS1 X.K cl W0 (i :: io) i a (evSs { pg with cur := some xx } sh) D σ H) (Wout := W)
    hs hf hN hi hln hc B.tk hb (fun a oe cls d pn hz hf => ⟨fun pins s σ H D I ⟨xx, e1, e2, q⟩ => by
      subst e1
      exact (hsu a oe xx pn (fun z => by rw [e2 z] at hz; exact hz) hf).run pins s σ H D I q⟩)) fun D σ H ⟨ρ, R, M, k, s, hk, p⟩ => by
    refine ⟨ρ, R, M, k, s, hk, ?_⟩
    have p : PostS X.K cl R M W io k D (match evSs pg sb ρ with
      | .exc x ρ1 => evHs pg (.cons c (some i) sh .nil) x ρ1
      | r => r) := p
    cases er : evSs pg sb ρ with
    | nx ρ1 => rw [er] at p; exact p
    | br ρ1 => rw [er] at p; exact p
    | ct ρ1 => rw [er] at p; exact p
    | rt d o ρ1 => rw [er] at p; exact p
    | stuck => rw [er] at p; exact p.elim
    | exc xx ρ1 =>
      rw [er] at p
      have p : PostS X.K cl R M W io k D (match pg.sub xx.c c with
        | some true => if i < ρ1.length then endX (some i) (evSs { pg with cur := some xx } sh (ρ1.set i none)) else .stuck
        | some false => .exc xx ρ1
        | none => .stuck) := p
      intro σ1 H1 dx s1 hk1 xo
      cases eb : pg.sub xx.c c with
      | none => rw [eb] at p; exact p.elim
      | some b =>
        rw [eb] at p
        refine ⟨b, ok _ _ eb, fun hbt a na => ?_, fun hbf => ?_⟩
        · subst hbt
          have p : PostS X.K cl R M W io k D (if i < ρ1.length then endX (some i) (evSs { pg with cur := some xx } sh (ρ1.set i none)) else .stuck) := p
          split at p
          · rename_i hlt
            have hl : i < σ1.length := by
              obtain ⟨Le, a1, _⟩ := s1
              rw [a1.len]
              exact hlt
            refine ⟨xx, rfl, fun z => ?_, ρ1.set i none, R, M, fun j => if j = i then some (some (.ref a)) else k j, s1.gone i _, fun j hj => ?_, if_pos rfl, endX_some hio (fun j hj => ?_) p⟩
            · rcases xo with ⟨_, e⟩ | ⟨h0, _⟩
              · exact e
              · exact absurd z h0
            · by_cases hj2 : j = i
              · subst hj2
                show _ = (if j = j then _ else _)
                rw [if_pos rfl, List.getElem?_set_self hl]
              · show _ = (if j = i then _ else _)
                rw [if_neg hj2, List.getElem?_set_ne (Ne.symm hj2)]
                rcases List.mem_cons.mp hj with e | hj
                · exact absurd e hj2
                · exact hk1 j hj
            · have hj2 : j ≠ i := fun z => by
                subst z
                have : io.contains j = true := by simpa using hj
                rw [hio] at this
                cases this
              show (if j = i then _ else _) = _
              rw [if_neg hj2]
          · exact p.elim
        · subst hbf
          exact p σ1 H1 dx s1 hk1 xo
theorem rs_tryOnly (B : Bd X W nn) (hs : X.stack = X.env :: X.outer) (hf : X.env.frame = some X.env.locals) (hc : Names X x (.ref (cl c))) (ok : ExmOk X.K cl pg.sub c)
    (hb : ∀ (W : WX) (pn : List (Addr × Obj)) (xe : Value → Shared → Prop), Takes (X.tr pn xe) W → PassesOwn (model X.prog X.w) X.A X.env xe → QSs (X.tr pn xe) cl W io pg body sb)
    (hsu : ∀ (a : Addr) (oe : Obj) (xx : Exn) (pn : List (Addr × Obj)), QSs (X.suite a ((a, oe) :: pn)) cl W0 io { pg with cur := some xx } (b₀ :: suite) sh) :
    QS X cl W io pg (.Try body [.ExceptHandler (some (.Name x np)) none (b₀ :: suite) pos'] [] [] pos) (.tryc sb (.cons c none sh .nil)) :=
  PS.of (ps_try_only (tb := fun W => tS X.K cl W io (evSs pg sb)) (ts := fun a cls d D σ H => ∃ xx : Exn, tS X.K cl W0 io (evSs { pg with cur := some xx } sh) D σ H) (Wout := W)
    hs hf hc B.tk hb (fun a oe cls d pn hz hf => ⟨fun pins s σ H D I ⟨xx, q⟩ => (hsu a oe xx pn).run pins s σ H D I q⟩)) fun D σ H ⟨ρ, R, M, k, s, hk, p⟩ => by
    refine ⟨ρ, R, M, k, s, hk, ?_⟩
    have p : PostS X.K cl R M W io k D (match evSs pg sb ρ with
      | .exc x ρ1 => evHs pg (.cons c none sh .nil) x ρ1
      | r => r) := p
    cases er : evSs pg sb ρ with
    | nx ρ1 => rw [er] at p; exact p
    | br ρ1 => rw [er] at p; exact p
    | ct ρ1 => rw [er] at p; exact p
    | rt d o ρ1 => rw [er] at p; exact p
    | stuck => rw [er] at p; exact p.elim
    | exc xx ρ1 =>
      rw [er] at p
      have p : PostS X.K cl R M W io k D (match pg.sub xx.c c with
        | some true => endX none (evSs { pg with cur := some xx } sh ρ1)
        | some false => .exc xx ρ1
        | none => .stuck) := p
      intro σ1 H1 dx s1 hk1 xo
      cases eb : pg.sub xx.c c with
      | none => rw [eb] at p; exact p.elim
      | some b =>
        rw [eb] at p
        refine ⟨b, ok _ _ eb, fun hbt a na => ?_, fun hbf => ?_⟩
        · subst hbt
          exact ⟨xx, ρ1, R, M, k, s1, hk1, endX_none p⟩
        · subst hbf
          exact p σ1 H1 dx s1 hk1 xo
end
end FB
namespace FB
open PySem PySem.Spec L2 PyProof.Rows
/-! ### list comprehensions that an exception may leave: the block's frame is the def's own -/
theorem note_frame {x : Value} {c d : Env} (h : c.frame = d.frame) : noteFrame x c = noteFrame x d := by unfold noteFrame PySem.frameOf; rw [h]
section
variable {M : Model} {A : Around} {E : Value → Shared → Prop}
/-- where an exception leaves the block whose names lie at C -/
def outX (M : Model) (A : Around) (E : Value → Shared → Prop) (C : Addr) (F : Option Addr) (x : Value) (t : Shared) : Prop :=
  ∃ names, t.heap.Ns C names ∧ ∀ k, Heap.SameBut C t.heap k → ∀ c : Env, c.frame = F → wpAny M A (PySem.passOn "comprehension.variables-let-go" x c : Sem Value) (fun _ _ => False) E { t with heap := k }
/-- behind the block, either way -/
def behX (M : Model) (A : Around) (E : Value → Shared → Prop) (use : Option (Value → Sem Unit)) (Q : Value → Shared → Prop) (acc : Value) (C : Addr) (F : Option Addr) : Result → Shared → Prop
  | .ok f, t => compPost M A E use Q acc C (.ok f) t
  | .error x, t => outX M A E C F x t
theorem comp_runX {s : Shared} {env : Env} {e : Expr} {scope : Scope} {pos : Pos} {mk fst : Sem Value} {g : Comprehension} {gs : List Comprehension} {caps : List (Str × Addr)} {use : Option (Value → Sem Unit)} {Q : Value → Shared → Prop}
    (one : clausesOf e = g :: gs) (plain : ∀ x, foldedSetIterable g.iter env x = pure x) (closed : closureFor scope env = pure caps) (fn : scope.kind = .function) (loc : ∀ y ∈ scope.names, y.2 = .local → scope.names.lookup y.1 = some .local)
    (go : wpAny M A fst (fun x s1 => wpAny M A (pyIter x) (fun it s2 => wpAny M A mk (fun acc s3 => wpAny M A (newFunctionEnv scope env.globals caps [] env.qual none .none (some env))
      (fun c s4 => c.frame = env.frame ∧ codeAny M A (.compStart e 0 it acc { c with scope := relabel scope env }) (behX M A E use Q acc c.locals env.frame) s4) E s3) E s2) E s1) E s) :
    wpAny M A (comprehension e scope env pos mk false fst use) Q E s := by
  unfold comprehension
  rw [closed, one]
  apply wpAny_bind
  apply thn go
  intro x s1 go
  apply wpAny_bind
  apply wpAny_standAt
  apply wpAny_bind
  apply wpAny_of_eq (plain x)
  apply wpAny_bind
  apply wpAny_holding
  apply thn go
  intro it s2 go
  apply wpAny_standIf
  apply wpAny_bind
  apply thn go
  intro acc s3 go
  apply wpAny_bind
  apply wpAny_pure
  apply wpAny_bind
  apply thn go
  rintro c s4 ⟨same, go⟩
  dsimp only
  have kinds : ∀ ys : List (Str × NameKind), (∀ y ∈ ys, y ∈ scope.names) → ∀ y ∈ ys, y.2 = .local → Env.kindOf { c with scope := relabel scope env } y.1 = some .local :=
    fun ys sub y hy hl => lookup_relabel_local (loc y (sub y hy) hl)
  apply wpAny_holding
  apply wpAny_bind
  apply wpAny_attempt
  apply wpAny_holding
  refine wpAny_run ?_
  apply codeAny_mono go
  intro r t after
  match r, after with
  | .error x, after =>
    obtain ⟨names, hn, out⟩ := (after : outX M A E c.locals env.frame x t)
    apply wpAny_bind
    apply wpAny_holding
    refine wpAny_comp_letGo (cenv := { c with scope := relabel scope env }) fn _ t names (kinds _ fun y hy => (List.mem_filter.mp (List.mem_reverse.mp hy)).1) hn fun k _ _ sb => ?_
    exact wpAny_mono (out k sb _ same) (fun _ _ no => no.elim) fun _ _ z => z
  | .ok f, after =>
    cases use with
    | none =>
      obtain ⟨names, hn, done⟩ := after
      apply wpAny_bind
      apply wpAny_holding
      refine wpAny_comp_letGo (cenv := { c with scope := relabel scope env }) fn _ t names (kinds _ fun y hy => (List.mem_filter.mp (List.mem_reverse.mp hy)).1) hn fun k _ _ sb => ?_
      exact wpAny_pure (done k sb)
    | some u =>
      apply wpAny_bind
      apply wpAny_rule
      apply wpAny_bind
      apply wpAny_holding
      apply thn (show wpAny M A (u acc) _ E t from after)
      rintro _ t2 ⟨names, hn, done⟩
      apply wpAny_bind
      refine wpAny_comp_letGo (cenv := { c with scope := relabel scope env }) fn _ t2 names (kinds _ fun y hy => ?_) hn fun k _ _ sb => wpAny_pure (done k sb)
      have hy : y ∈ _ ∨ y ∈ _ := List.mem_append.mp hy
      exact (List.mem_filter.mp (List.mem_reverse.mp (hy.elim List.mem_of_mem_drop List.mem_of_mem_take))).1
end
/-! what an exception is in the block's state, in the def's own -/
section
open HandSPX
/-- frames that stay where they were -/
theorem frames_at {B h k : Heap} : ∀ {l : List Env}, h.FunFrames B l → (∀ b ∈ frs l, k.get? b = h.get? b) → k.FunFrames B l
  | [], _, _ => trivial
  | c :: l, ⟨h1, ⟨L, o, h2, h3, h4, h5⟩, h6⟩, same => by
    have inl : ∀ b, b ∈ frs l → b ∈ frs (c :: l) := fun b hb => by
      simp only [frs, List.mem_filterMap] at hb ⊢
      obtain ⟨d, hd, q⟩ := hb
      exact ⟨d, .tail _ hd, q⟩
    have here : L ∈ frs (c :: l) := by
      simp only [frs, List.mem_filterMap]
      exact ⟨c, .head _, h2⟩
    exact ⟨h1, ⟨L, o, h2, h3, (same L here).trans h4, h5⟩, frames_at h6 fun b hb => same b (inl b hb)⟩
/-- a heap heap_less one object -/
theorem heap_less (B : Heap) (C : Addr) : ∃ B2 : Heap, (∀ b, b ≠ C → B2.get? b = B.get? b) ∧ B2.get? C = none := by
  obtain ⟨B2, h1, h2⟩ := restrict B fun b => decide (b ≠ C)
  exact ⟨B2, fun b hb => h1 b (decide_eq_true hb), h2 C (by simp)⟩
variable {B : Heap} {l : List Env} {a L C : Addr} {Z : Obj → Prop}
/-- an exception that is held here is held here where C's object changes, which the ground had -/
theorem HeldZ.but {h k B2 : Heap} {oC : Obj} (x : HeldZ B l a Z L h) (hC : B.get? C = some oC) (h1 : ∀ b, b ≠ C → B2.get? b = B.get? b) (h2 : B2.get? C = none) (sb : Heap.SameBut C h k) (nf : C ∉ frs l) : HeldZ B2 l a Z L k := by
  obtain ⟨st, na, ff, oe, vs, T, oT, ts, e1, e2, e3, e4, e5, e6, e7, e8, e9⟩ := x
  have ne : ∀ {b}, B.get? b = none → b ≠ C := fun {b} n z => by
    subst z
    rw [hC] at n
    cases n
  have no : ∀ {b}, B.get? b = none → B2.get? b = none := fun {b} n => (h1 b (ne n)).trans n
  refine ⟨fun b o hb => ?_, no na, frames_at (funFrames_none ff fun b hb => no (ff.mem hb).1) fun b hb => sb.2 b fun z => nf (z ▸ hb), oe, vs, T, oT, ts, ?_, e2, e3, e4, no e5, e6, ?_, e8, e9⟩
  · have hbC : b ≠ C := fun z => by
      subst z
      rw [h2] at hb
      cases hb
    exact (sb.2 b hbC).trans (st b o ((h1 b hbC).symm.trans hb))
  · exact (sb.2 a (ne na)).trans e1
  · exact (sb.2 T (ne e5)).trans e7
/-- one that another place holds is in flight, once that is forgotten -/
theorem note_other {M : Model} {A : Around} {E : Value → Shared → Prop} {s : Shared} {env : Env} {outer : List Env} {Q : Unit → Shared → Prop} (hZ : Steady Z) (fr : A.frames = some (env :: outer)) (hf : env.frame = some L) (hne : C ≠ L) (x : HeldZ B (env :: outer) a Z C s.heap)
    (k : ∀ h', HeldZ B (env :: outer) a Z L h' → s.heap.UpToSlots h' → Q () { s with heap := h' }) : wpAny M A (noteFrame (.ref a) env) Q E s := by
  obtain ⟨st, na, ff, oe, vs, T, oT, ts, e1, e2, e3, e4, e5, e6, e7, e8, e9⟩ := x
  have unlike : (rawInt C == rawInt L) = false := by
    cases e : rawInt C == rawInt L with
    | false => rfl
    | true =>
      simp only [rawInt, beq_iff_eq, Value.int.injEq] at e
      exact absurd (Int.ofNat.inj e.1) hne
  have notT : ∀ {b o}, s.heap.get? b = some o → (∀ us, o.data ≠ .fields us) → b ≠ T := fun {b o} hb n z => by
    subst z
    rw [e7] at hb
    cases hb
    exact n _ e8
  have stay : ∀ {b}, b ≠ T → (s.heap.update T (Obj.mapFields fun us => us.setIfInBounds 3 Value.none)).get? b = s.heap.get? b := fun {b} hb => Heap.get?_update_other _ _ (Ne.symm hb)
  unfold noteFrame
  simp only [hf]
  apply wpAny_bind
  apply wpAny_field e1 e3 e4
  rw [if_pos (by rfl)]
  apply wpAny_bind
  apply wpAny_field e7 e8 e9
  rw [unlike, if_neg Bool.false_ne_true]
  apply wpAny_bind
  apply wpAny_setField e7 e8 (Array.getElem?_eq_some_iff.mp e9).1
  refine wpAny_entryZ hZ fr (ff.of_keeps fun b o hb n => ⟨o, (stay (notT hb n)).trans hb, rfl⟩) hf ((stay (Ne.symm e6)).trans e1) (fun b o hb => ?_) na e3 (Array.getElem?_eq_some_iff.mp e4).1 e2 fun h' q => ?_
  · refine (stay fun z => ?_).trans (st b o hb)
    subst z
    rw [e5] at hb
    cases hb
  · exact k h' ⟨q.1, na, q.2.1, q.2.2.1⟩ fun b o hb n => q.2.2.2 b o ((stay (notT hb n)).trans hb) n
end
section
variable {X : Cx} {pins : List (Addr × Obj)} {σ : L2.St} {H : Hp} {s : Shared} {W : WX} {xe : Value → Shared → Prop}
/-- what is wished of exceptions is no part of what a state must be -/
theorem Cx.Ok.wish {Y : Cx} (ok : Y.Ok) : Cx.Ok { Y with xe := xe } := { ok with }
theorem Cx.Ok.unwish (ok : Cx.Ok { X with xe := xe }) : X.Ok := { ok with }
theorem Inv.wish (I : Inv X pins σ H s) : Inv { X with xe := xe } pins σ H s := { I with ok := Cx.Ok.wish I.ok }
theorem Inv.unwish (I : Inv { X with xe := xe } pins σ H s) : Inv X pins σ H s := { I with ok := Cx.Ok.unwish I.ok }
/-- the block's context, its exceptions kept as W' wishes -/
abbrev blkX (X : Cx) (s : Shared) (H : Hp) (scope : Scope) (cenv : Env) (fp : List Addr) (W' : WX) : Cx := { X.blk s H scope cenv fp with xe := XE (X.blk s H scope cenv fp) W' }
theorem takesX {s : Shared} {H : Hp} {scope : Scope} {cenv : Env} {fp : List Addr} {W' : WX} : Takes (blkX X s H scope cenv fp W') W' := fun u s' ⟨a, B, sI, pins, σ, H', cls, d, e, I, r⟩ => ⟨a, B, sI, pins, σ, H', cls, d, e, Inv.unwish I, r⟩
/-- the block's wish: the def's, at the slots ahead of it -/
abbrev wBlk (W : WX) (σ : L2.St) : WX := fun cls d _ H' => W cls d σ H'
/-- a block that began at s3, where the iterator's objects lie at fp -/
structure BlkB (X : Cx) (pins : List (Addr × Obj)) (σ : L2.St) (s3 : Shared) (H3 : Hp) (c : Env) (fp : List Addr) : Prop where
  inv : Inv X pins σ H3 s3
  at_ : c.locals = s3.heap.objs.size
  frm : c.frame = X.env.frame
  fps : ∀ b ∈ fp, FpOk X pins H3 b ∧ b < s3.heap.objs.size
variable {s3 t : Shared} {H3 H' : Hp} {scope : Scope} {c : Env} {fp : List Addr} {ps : List (Addr × Obj)} {σ' : L2.St}
/-- the block's state is one of the def's -/
theorem BlkB.home (b : BlkB X pins σ s3 H3 c fp) (J : Inv (X.blk s3 H3 scope c fp) ps σ' H' t) : Inv X pins σ H' t ∧ (∃ m, t.heap.Ns s3.heap.objs.size m) ∧ FpOk X pins H' s3.heap.objs.size := by
  have free : H' c.locals = none := J.free
  have names : ∃ m, t.heap.Ns c.locals m := let ⟨m, h, _⟩ := J.loc; ⟨m, h⟩
  rw [b.at_] at free names
  refine ⟨b.inv.call' (ch := fp) J.os J.base J.hok J.bare fun x hx => ?_, names, b.inv.fpOk (Nat.le_refl _) free⟩
  obtain ⟨⟨_, f1, _, f3, f4, f5⟩, _⟩ := b.fps x hx
  exact ⟨f3, f1, f4, f5⟩
/-- an exception that leaves the block -/
theorem BlkB.err {u : Value} {use : Option (Value → Sem Unit)} {Qf : Value → Shared → Prop} {acc : Value} (b : BlkB X pins σ s3 H3 c fp) (stk : X.stack = X.env :: X.outer) (own : X.env.frame = some X.env.locals) (tk : Takes X W)
    (x : XE (X.blk s3 H3 scope c fp) (wBlk W σ) u t) : notedBy (model X.prog X.w) X.A c (fun e t' => behX (model X.prog X.w) X.A X.xe use Qf acc s3.heap.objs.size X.env.frame (.error e) t') u t := by
  obtain ⟨a, B, sI, ps, σ', H', cls, d, rfl, J, ground, slots, sky, na, os, ag, w⟩ := x
  have fr : X.A.frames = some (X.env :: X.outer) := stk ▸ b.inv.ok.frames
  have nf : s3.heap.objs.size ∉ frs X.stack := fun hm => by
    obtain ⟨_, o, ho, _⟩ := b.inv.stack.mem hm
    exact Nat.lt_irrefl _ (Heap.lt_size ho)
  obtain ⟨I, ⟨m, oC, es, ep, hC, hr⟩, f0, f1, _, f3, f4, f5⟩ := b.home J
  have BC : B.get? s3.heap.objs.size = some oC := ground _ _ hC nf
  obtain ⟨B2, k1, k2⟩ := heap_less B s3.heap.objs.size
  obtain ⟨G, g1, g2⟩ := heap_less sI.heap s3.heap.objs.size
  have I2 : Inv X pins σ H' { sI with heap := G, toks := sI.toks } := I.turned (t' := sI.toks) (fun y o hy e => (g1 y hy).trans e) f0 f1 f3 f4 f5
  have ofG : ∀ {y o}, G.get? y = some o → y ≠ s3.heap.objs.size ∧ sI.heap.get? y = some o := fun {y o} e => by
    have hy : y ≠ s3.heap.objs.size := fun z => by
      subst z
      rw [g2] at e
      cases e
    exact ⟨hy, (g1 y hy).symm.trans e⟩
  -- once it is noted here
  have noted : ∀ h1, HandSPX.HeldZ B X.stack a (Zc cls d) X.env.locals h1 → t.heap.UpToSlots h1 → outX (model X.prog X.w) X.A X.xe s3.heap.objs.size X.env.frame (.ref a) { t with heap := h1 } := fun h1 held up1 => by
    refine ⟨m, ⟨oC, es, ep, held.1 _ _ BC, hr⟩, fun h2 sb c2 hc2 => ?_⟩
    have held2 := HeldZ.but held BC k1 k2 sb nf
    obtain ⟨oe, vs, T, _, _, e1, _, e3, e4, _⟩ := held2.2.2.2
    unfold PySem.passOn
    apply wpAny_bind
    apply wpAny_field e1 e3 e4
    rw [if_neg (by intro z; cases z)]
    apply wpAny_bind
    rw [hc2, own]
    refine HandSPX.setFlight_onZ held2 fun h3 held3 up3 => wpAny_throw (tk _ _ ⟨a, B2, _, pins, σ, H', cls, d, rfl, I2, fun y o e hy => ?_, fun y o e n => ?_, .inr (.inr held3), na, os, ag, w⟩)
    · exact (k1 y (ofG e).1).trans (ground y o (ofG e).2 hy)
    · obtain ⟨l1, q1⟩ := slots y o (ofG e).2 n
      obtain ⟨l2, q2⟩ := up1 y _ q1 n
      obtain ⟨l3, q3⟩ := up3 y { o with slots := l2 } ((sb.2 y (ofG e).1).trans q2) n
      exact ⟨l3, q3⟩
  unfold notedBy
  rw [note_frame b.frm]
  have sky : Sky B (X.env :: X.outer) a (Zc cls d) s3.heap.objs.size t.heap := by
    have z : Sky B X.stack a (Zc cls d) c.locals t.heap := sky
    rw [stk, b.at_] at z
    exact z
  rw [stk] at noted
  rcases sky with ⟨st, n0, ff, oe, vs, e1, e2, e3, e4⟩ | flies | held
  · exact HandSPX.look_newZ Zc.steady fr ff own e1 st n0 e3 e4 e2 noted
  · exact HandSPX.looks_onZ Zc.steady fr own flies noted
  · exact note_other Zc.steady fr own (Ne.symm (Nat.ne_of_lt b.inv.lt)) held noted
/-! the loop -/
variable {elt tg iter : Expr} {ifs : List Expr} {own : List (Str × Nat)} {pos pos' spos : Pos} {wi : TI}
/-- a block's state between two turns -/
def TurnsX (X : Cx) (s3 : Shared) (H3 : Hp) (scope : Scope) (c : Env) (fp : List Addr) (W' : WX) (σw : L2.St) (tn : Nat → Heap → Prop) (Wm : Nat → Nat → Hp → Prop) (n : Nat) (t : Shared) : Prop :=
  ∃ i H', Inv (blkX X s3 H3 scope c fp W') [] σw H' t ∧ tn i t.heap ∧ (∀ b ∈ fp, H' b = none) ∧ Wm i n H'
theorem fp_stay {W' : WX} (J : Inv (blkX X s3 H3 scope c fp W') [] σ' H' t) (n : ∀ b ∈ fp, H' b = none) : ∀ b ∈ fp, FpOk (blkX X s3 H3 scope c fp W') [] H' b := fun b hb => by
  obtain ⟨h1, h2⟩ := J.ok.exf b hb
  exact ⟨n b hb, h1, J.ok.exfs b hb, Or.inl hb, h2, fun p hp => by cases hp⟩
/-- a def's list comprehension whose block may let an exception out -/
theorem lc_runX {Q : VK} {g : TG} {tt : TT} {te : TE} {use : Option (Value → Sem Unit)} {Qf : Value → Shared → Prop} (stk : X.stack = X.env :: X.outer) (fro : X.env.frame = some X.env.locals) (tk : Takes X W) (calm : X.calm = true) (hN : X.N.Nodup) (I : Inv X pins σ H s)
    (hi : PI X tg iter wi) (ok : BlkOk X.N X.env.scope scope own)
    (hg : ∀ (s : Shared) (H : Hp) (C : Addr) (l : List (Str × Addr)) (fp : List Addr), PG (blkX X s H scope (compEnvC scope l C X.env) fp (wBlk W σ)) tg g)
    (ht : ∀ (s : Shared) (H : Hp) (C : Addr) (l : List (Str × Addr)) (fp : List Addr), PTs (blkX X s H scope (compEnvC scope l C X.env) fp (wBlk W σ)) ifs tt)
    (he : ∀ (s : Shared) (H : Hp) (C : Addr) (l : List (Str × Addr)) (fp : List Addr), PE (blkX X s H scope (compEnvC scope l C X.env) fp (wBlk W σ)) elt te)
    (plain : ∀ x, foldedSetIterable iter X.env x = pure x) (rd : tLc wi g tt te (own.map (·.2)) σ H Q)
    (fin : ∀ D C t m H', Inv X pins σ H' t → Q (.ref D) H' → t.heap.Ns C m → FpOk X pins H' C → compPost (model X.prog X.w) X.A X.xe use Qf (.ref D) C (.ok .next) t) :
    wpAny (model X.prog X.w) X.A (comprehension (.ListComp elt [⟨tg, iter, ifs, 0⟩] scope pos) scope X.env pos' (newList []) false (eval iter X.env) use) Qf X.xe s := by
  have caps : ∀ y ∈ scope.names, y.2 = .free → ∃ c, X.env.cells.lookup y.1 = some c := fun y hy fr => I.ok.has _ ((ok.free y hy fr).imp id id)
  apply comp_runX (use := use) rfl plain (closure_ok caps) ok.kind fun y hy e => (ok.uniq y hy).trans (congrArg some e)
  apply thn (hi.run pins s σ H _ I rd)
  intro xv s1 q
  apply thn q
  rintro _ s2 ⟨it, fp, tn, J, H2, rfl, I2, T, st, fps, q⟩
  refine wpAny_newObj_type (newEnv_comp ⟨rfl, ?_⟩) (Nat.zero_le _)
  -- the new list lies at D
  have hD : H2 s2.heap.objs.size = none := I2.hok.fresh (Nat.le_refl _)
  obtain ⟨Wm, ⟨m0, w0⟩, turn⟩ := q _ hD
  have fresh : ∀ b ∈ fp, b < s2.heap.objs.size := fun b hb => let ⟨_, e, _⟩ := T.obj _ _ st b hb; Heap.lt_size e
  obtain ⟨s3, es3⟩ : ∃ s3 : Shared, s3 = { s2 with heap := s2.heap.push { cls := .type "list", data := .seq ([] : List Value).toArray } } := ⟨_, rfl⟩
  have old : ∀ b o, s2.heap.get? b = some o → s3.heap.get? b = some o := fun b o e => by
    rw [es3]
    exact Heap.get?_push_of_some _ e
  have size3 : s3.heap.objs.size = s2.heap.objs.size + 1 := by
    rw [es3]
    exact Heap.size_push ..
  have I3 : Inv X pins σ (upd H2 s2.heap.objs.size (.lst [])) s3 := by
    have z := I2.laid (t' := s2.toks) (a := s2.heap.objs.size) (o := .lst []) (h' := s3.heap) old (Nat.le_refl _) ⟨Nat.zero_le _, [], 0, .nil, by rw [es3]; exact Heap.get?_push_size _ rfl⟩
    rw [es3] at z ⊢
    exact z
  rw [← es3]
  have fps3 : ∀ b ∈ fp, FpOk X pins (upd H2 s2.heap.objs.size (.lst [])) b ∧ b < s3.heap.objs.size := fun b hb => by
    refine ⟨⟨?_, (fps b hb).2⟩, Nat.lt_of_lt_of_le (fresh b hb) (by rw [size3]; exact Nat.le_succ _)⟩
    exact (upd_ne (Nat.ne_of_lt (fresh b hb))).trans (fps b hb).1
  have begun := block_start I3 ok hN fps3
  generalize hl : cellsFrom (s3.heap.objs.size + 1) scope.names (cloFrom X.env.cells scope.names []) = l at begun ⊢
  obtain ⟨c, ec⟩ : ∃ c : Env, c = compEnvC scope l s3.heap.objs.size X.env := ⟨_, rfl⟩
  have b : BlkB X pins σ s3 (upd H2 s2.heap.objs.size (.lst [])) c fp := ⟨I3, by rw [ec]; rfl, by rw [ec]; rfl, fps3⟩
  generalize upd H2 s2.heap.objs.size (.lst []) = H3 at begun w0 b I3 fps3
  have pg : PG (blkX X s3 H3 scope c fp (wBlk W σ)) tg g := by rw [ec]; exact hg ..
  have pt : PTs (blkX X s3 H3 scope c fp (wBlk W σ)) ifs tt := by rw [ec]; exact ht ..
  have pe : PE (blkX X s3 H3 scope c fp (wBlk W σ)) elt te := by rw [ec]; exact he ..
  rw [← ec] at begun
  show codeAny _ _ (.compStart (.ListComp elt [⟨tg, iter, ifs, 0⟩] scope pos) 0 (.ref it) (.ref s2.heap.objs.size) (compEnvC scope l s3.heap.objs.size X.env)) (behX _ _ _ use Qf (.ref s2.heap.objs.size) s3.heap.objs.size X.env.frame) _
  rw [← ec]
  have kept : ∀ b o, s2.heap.get? b = some o → (pushCells (s3.heap.push { cls := .type "dict", data := .dict #[] }) scope.names).get? b = some o := fun b o e => pushCells_keeps _ _ _ _ (Heap.get?_push_of_some _ (old b o e))
  have st4 : tn 0 ({ s3 with heap := pushCells (s3.heap.push { cls := .type "dict", data := .dict #[] }) scope.names } : Shared).heap := T.keep _ _ _ st fun b _ o e => kept b o e
  generalize ({ s3 with heap := pushCells (s3.heap.push { cls := .type "dict", data := .dict #[] }) scope.names } : Shared) = s4 at begun st4 ⊢
  have bad : ∀ u t, XE (X.blk s3 H3 scope c fp) (wBlk W σ) u t → notedBy (model X.prog X.w) X.A c (fun e t' => behX (model X.prog X.w) X.A X.xe use Qf (.ref s2.heap.objs.size) s3.heap.objs.size X.env.frame (.error e) t') u t := fun u t x => b.err stk fro tk x
  have all : codeAny (model X.prog X.w) X.A (.compLoop (.ListComp elt [⟨tg, iter, ifs, 0⟩] scope pos) 0 (.ref it) (.ref s2.heap.objs.size) c) (behX (model X.prog X.w) X.A X.xe use Qf (.ref s2.heap.objs.size) s3.heap.objs.size X.env.frame) s4 := by
    apply compLoop_any (TurnsX X s3 H3 scope c fp (wBlk W σ) (wipe σ (own.map (·.2))) tn Wm) _ m0 ⟨0, H3, Inv.wish begun, st4, fun b hb => (fps3 b hb).1.1, w0⟩
    rintro n t ⟨i, H5, J5, at5, no5, w5⟩
    obtain ⟨ends, q⟩ | ⟨goes, Nx, less, does⟩ := turn i n H5 w5
    · apply thnF (T.done (blkX X s3 H3 scope c fp (wBlk W σ)) rfl rfl rfl calm i [] t _ H5 (fun _ _ => False) J5 (fp_stay J5 no5) at5 ends)
      rintro _ t6 ⟨rfl, J6⟩
      obtain ⟨I6, ⟨m, ns⟩, f6⟩ := b.home (Inv.unwish J6)
      exact fin _ _ t6 m H5 I6 q ns f6
    · apply thnF (T.item (blkX X s3 H3 scope c fp (wBlk W σ)) rfl rfl rfl calm i [] t _ H5 (fun _ _ => False) J5 (fp_stay J5 no5) at5 goes)
      rintro _ t6 ⟨u, rfl, lets⟩
      apply thnF lets
      rintro _ t7 ⟨x, H7, J7, r7, y7, at7, no7⟩
      have pinned := J7.pinned (fp_stay J7 no7) (T.obj _ _ at7)
      refine wpAny_mono (pg.run _ t7 _ H7 x u _ pinned r7 (does x H7 y7)) ?_ bad
      rintro _ t8 ⟨σ8, H8, J8, same, q8⟩
      -- the end of a turn
      have next : ∀ {t' : Shared} {H' : Hp}, Inv (blkX X s3 H3 scope c fp (wBlk W σ)) ([] ++ pinsAt fp t7.heap) σ8 H' t' → Nx H' → ∃ m, m < n ∧ TurnsX X s3 H3 scope c fp (wBlk W σ) (wipe σ (own.map (·.2))) tn Wm m t' := fun {t' H'} J' nx => by
        obtain ⟨m, lt, w'⟩ := less H' nx
        have pin : ∀ b ∈ fp, ∀ o, t7.heap.get? b = some o → t'.heap.get? b = some o ∧ H' b = none := fun b hb o e => by
          obtain ⟨z1, z2, _⟩ := J'.pin (b, o) (by simp only [List.nil_append, List.append_nil]; exact mem_pinsAt hb e)
          exact ⟨z1, z2⟩
        have J2 := Inv.weak (σ' := wipe σ (own.map (·.2))) (Inv.unpinned (pins := []) J') (by rw [← same, wipe_length]) fun j v e => (wipe_some (same ▸ e)).1
        refine ⟨m, lt, i + 1, H', J2, T.keep _ _ _ at7 fun b hb o e => (pin b hb o e).1, fun b hb => ?_, w'⟩
        obtain ⟨o, e, _⟩ := T.obj _ _ at7 b hb
        exact (pin b hb o e).2
      refine wpAny_mono (pt.run _ t8 σ8 H8 _ J8 q8) ?_ bad
      rintro (_ | _) t9 ⟨H9, J9, q9⟩
      · rw [if_neg Bool.false_ne_true] at q9 ⊢
        exact next J9 q9
      · rw [if_pos rfl] at q9 ⊢
        refine wpAny_mono (pe.run _ t9 σ8 H9 _ J9 q9) ?_ bad
        rintro v ta ⟨yv, Ha, Ja, ra, acc, atD, few, nx⟩
        exact app_ok (X := blkX X s3 H3 scope c fp (wBlk W σ)) Ja atD few ra fun tb Jb => next Jb nx
  exact codeAny_compStart_list all (T.self X.A 0 _ _ _ st4 all)
/-- the reading: what the block's parts read bears the def's wish -/
def tLcX (W : WX) (wi : TI) (g : WX → TG) (tt : WX → TT) (te : WX → TE) (vs : List Nat) : TE := fun σ H Q => tLc wi (g (wBlk W σ)) (tt (wBlk W σ)) (te (wBlk W σ)) vs σ H Q
variable {g : WX → TG} {tt : WX → TT} {te : WX → TE}
structure BlkR (X : Cx) (scope : Scope) (tg : Expr) (ifs : List Expr) (elt : Expr) (g : WX → TG) (tt : WX → TT) (te : WX → TE) : Prop where
  hg : ∀ (s : Shared) (H : Hp) (C : Addr) (l : List (Str × Addr)) (fp : List Addr) (W' : WX), PG (blkX X s H scope (compEnvC scope l C X.env) fp W') tg (g W')
  ht : ∀ (s : Shared) (H : Hp) (C : Addr) (l : List (Str × Addr)) (fp : List Addr) (W' : WX), PTs (blkX X s H scope (compEnvC scope l C X.env) fp W') ifs (tt W')
  he : ∀ (s : Shared) (H : Hp) (C : Addr) (l : List (Str × Addr)) (fp : List Addr) (W' : WX), PE (blkX X s H scope (compEnvC scope l C X.env) fp W') elt (te W')
theorem pe_lcX (stk : X.stack = X.env :: X.outer) (fro : X.env.frame = some X.env.locals) (tk : Takes X W) (calm : X.calm = true) (hN : X.N.Nodup) (hi : PI X tg iter wi) (ok : BlkOk X.N X.env.scope scope own) (r : BlkR X scope tg ifs elt g tt te)
    (plain : ∀ x, foldedSetIterable iter X.env x = pure x) : PE X (.ListComp elt [⟨tg, iter, ifs, 0⟩] scope pos) (tLcX W wi g tt te (own.map (·.2))) where
  run pins s σ H Q I rd := by
    rw [eval_ListComp]
    apply lc_runX stk fro tk calm hN I hi ok (fun s H C l fp => r.hg s H C l fp _) (fun s H C l fp => r.ht s H C l fp _) (fun s H C l fp => r.he s H C l fp _) plain rd
    rintro D C t m H' J q ns ⟨a0, a1, _, a3, a4, a5⟩
    exact ⟨m, ns, fun k sb => ⟨V.ref D, H', J.turned (t' := t.toks) (fun b o hb e => (sb.2 b hb).trans e) a0 a1 a3 a4 a5, rfl, q⟩⟩
theorem ps_setLcX {i : Nat} {y : Str} {py : Pos} (stk : X.stack = X.env :: X.outer) (fro : X.env.frame = some X.env.locals) (tk : Takes X W) (calm : X.calm = true) (hN : X.N.Nodup) (hy : X.N[i]? = some y) (hyl : X.env.scope.names.lookup y = some .local)
    (sw : swapsWith (.ListComp elt [⟨tg, iter, ifs, 0⟩] scope pos) (some (.Name y py)) spos.line X.env = pure true) (hi : PI X tg iter wi) (ok : BlkOk X.N X.env.scope scope own) (r : BlkR X scope tg ifs elt g tt te)
    (plain : ∀ x, foldedSetIterable iter X.env x = pure x) : PS X (.Assign [.Name y py] (.ListComp elt [⟨tg, iter, ifs, 0⟩] scope pos) spos) (tAsg (tLcX W wi g tt te (own.map (·.2))) (gName i)) where
  run pins s σ H D I rd := by
    rw [exec_Assign_Name_used _ _ _ _ sw]
    apply wpAny_bind
    apply wpAny_standAt
    apply wpAny_bind
    have go := lc_runX (Q := fun x H1 => gName i x σ H1 D.nx) (pos' := firstIterPos [⟨tg, iter, ifs, 0⟩] pos) (pos := pos) (use := some (assign (.Name y py) X.env)) (Qf := fun _ t => SP X pins D .next t) stk fro tk calm hN I hi ok (fun s H C l fp => r.hg s H C l fp _) (fun s H C l fp => r.ht s H C l fp _) (fun s H C l fp => r.he s H C l fp _) plain rd (by
      rintro L C t m H' J q ns ⟨a0, a1, _, a3, a4, a5⟩
      show wpAny _ _ (assign (.Name y py) X.env (.ref L)) _ _ _
      apply wpAny_assign_Name
      refine store_ok2 (v := V.ref L) J hN hy (.inl hyl) rfl (fun t2 J2 ⟨a, sb, at_⟩ => ⟨m, ns.sameBut sb ?_, fun k sb2 => ⟨_, H', J2.turned (t' := t2.toks) (fun b o hb e => (sb2.2 b hb).trans e) a0 a1 a3 a4 a5, q⟩⟩) (.inr hyl)
      rcases at_ with rfl | z
      · exact a1
      · exact Ne.symm (a4 y a z))
    exact wpAny_bind (thn go fun _ t q => wpAny_pure (wpAny_pure q))
end
end FB
namespace FB
open PySem L2 PyProof.Rows
def tcdX (K : PySem.W.Frag) (cl : Nat → Addr) (W' : WX) : Option (FEnv → Ev Bool) → TT
  | some c => tT K cl W' c
  | none => tYes
def preX (a : List D) : Ev (List D) → Ev (List D)
  | .ok r ρ => .ok (a ++ r) ρ
  | .exc x ρ => .exc x ρ
  | .stuck => .stuck
def finX (js : List Nat) : Ev (List D) → Ev DO
  | .ok r ρ5 => .ok (.lst r, .root) ρ5
  | .exc x ρ5 => .exc x (wipeE ρ5 js)
  | .stuck => .stuck
def lcFX (js : List Nat) (tp : Bool) (fi : FEnv → Ev (List D)) (fc : Option (FEnv → Ev Bool)) (fe : FEnv → Ev DO) : FEnv → Ev DO := fun ρ => (fi ρ).bind fun ds ρ1 => if ds.length ≤ 1000000 then
      (match lcLoopX (lcBody js tp fc fe) ds (wipeE ρ1 js) with
        | .ok r ρ5 => .ok (.lst r, .root) ρ5
        | .exc x ρ5 => .exc x (wipeE ρ5 js)
        | .stuck => .stuck) else .stuck
theorem finX_eq {js : List Nat} {z : Ev (List D)} : (match z with
        | .ok r ρ5 => Ev.ok (D.lst r, O.root) ρ5
        | .exc x ρ5 => .exc x (wipeE ρ5 js)
        | .stuck => .stuck) = finX js z := by cases z <;> rfl
theorem preX_nil {z : Ev (List D)} : preX [] z = z := by cases z <;> rfl
theorem preX_cons {dacc : List D} {d : D} {z : Ev (List D)} : preX dacc (match z with
      | .ok ds ρ2 => .ok (d :: ds) ρ2
      | .exc x ρ2 => .exc x ρ2
      | .stuck => .stuck) = preX (dacc ++ [d]) z := by
  cases z with
  | ok r ρ => simp [preX]
  | exc x ρ => rfl
  | stuck => rfl
section
variable {X : Cx} {cl : Nat → Addr} {W : WX} {io : List Nat} {pos pos' : Pos} {K : PySem.W.Frag}
theorem lc_readX {js : List Nat} {tp : Bool} {g : TG} {fi : FEnv → Ev (List D)} {fc : Option (FEnv → Ev Bool)} {fe : FEnv → Ev DO} {σ : L2.St} {H : Hp} {Q : VK} (hok : TgR K cl js tp g) (h : Rd1 K cl repV W (lcFX js tp fi fc fe) σ H Q) :
    tLcX W (tI K cl W fi) (fun _ => g) (fun W' => tcdX K cl W' fc) (fun W' => tE K cl W' fe) js σ H Q := by
  obtain ⟨ρ, R, M, s, p⟩ := h
  refine ⟨ρ, R, M, s, p.toI fun ds ρ1 _ p J H1 P ex it s1 Da nD => ?_⟩
  by_cases hlen : ds.length ≤ 1000000
  · rw [if_pos hlen, finX_eq] at p
    let Inv' : Nat → Hp → Prop := fun i H => ∃ ρ acc dacc, acc.length = dacc.length ∧ Sta K cl (wipe σ js) H P (wipeE ρ js) ([.cell Da (.lst acc)] ++ (shs acc dacc ++ M)) ∧ Post K cl repV R M W σ Q (finX js (preX dacc (lcLoopX (lcBody js tp fc fe) (ds.drop i) (wipeE ρ js)))) ∧ dacc.length ≤ i
    have inv0 : Inv' 0 (upd H1 Da (.lst [])) := by
      refine ⟨ρ1, [], [], rfl, ?_, by rw [preX_nil]; exact p, Nat.le_refl _⟩
      obtain ⟨Le, a, b⟩ := (s1.wiped js).other (σ' := wipe σ js) (by rw [wipe_length]) wipe_agree
      exact Sta.ofFront (N := [.cell Da (.lst [])]) a (b.alloc nD)
    refine ⟨fun i m H => m = ds.length - i ∧ i ≤ ds.length ∧ Inv' i H, ⟨_, rfl, Nat.zero_le _, inv0⟩, ?_⟩
    rintro i m H ⟨rfl, hi, ρ, acc, dacc, hacc, s, e, hd⟩
    obtain ⟨h1, h2⟩ := it H s.raw
    by_cases hlt : i < ds.length
    · right
      obtain ⟨g1, g2⟩ := h2 i _ (List.getElem?_eq_getElem hlt)
      refine ⟨g1, Inv' (i + 1), fun H' h => ⟨ds.length - (i + 1), by omega, rfl, hlt, h⟩, fun x H' y => ?_⟩
      have s2 : Sta K cl (wipe σ js) H' P (wipeE ρ js) ([.val x ds[i] .sh] ++ ([.cell Da (.lst acc)] ++ (shs acc dacc ++ M))) := by
        obtain ⟨Le, a, b⟩ := s
        exact Sta.ofFront (N := [.val x ds[i] .sh]) a (g2 x H' y _ b)
      rw [List.drop_eq_getElem_cons hlt] at e
      simp only [lcLoopX] at e
      cases eb : bindTg js tp ds[i] (wipeE ρ js) with
      | none =>
        simp only [lcBody, eb] at e
        exact e.elim
      | some ρ2 =>
        simp only [lcBody, eb] at e
        refine hok s2 eb fun σ' s3 hke hl => ⟨wipe_other (by rw [hl, wipe_length]) hke, ?_⟩
        have hl' : σ'.length = σ.length := by rw [hl, wipe_length]
        have hsz : ∀ {n : Nat}, n ≤ i → n < sizeLine := fun hn => by rw [sizeLine_eq]; omega
        -- what an exception leaves
        have exq : ∀ {x4 : Exn} {ρ4 : FEnv} {H' : Hp} {dx : Option Addr}, Post K cl repV R M W σ Q (.exc x4 (wipeE ρ4 js)) → Sta K cl σ' H' P ρ4 ([.cell Da (.lst acc)] ++ (shs acc dacc ++ M)) → XOk H' x4 dx → wBlk W σ (.ref (cl x4.c)) dx σ' H' := fun {x4 ρ4 H' dx} p4 s4 xo => by
          refine p4 H' dx (Sta.mono ex ?_) xo
          have s5 : Sta K cl σ' H' P ρ4 M := Sta.item (N := .cell Da (.lst acc) :: shs acc dacc) (N' := []) s4 fun L g => Good.tailA (L := .cell Da (.lst acc) :: shs acc dacc) g
          exact (s5.wiped js).other (σ' := σ) (by rw [hl']) fun i hi => by
            rw [hke i hi]
            exact (wipe_agree i hi).symm
        have fin : ∀ {ρ3 : FEnv} {H3 : Hp}, Sta K cl σ' H3 P ρ3 ([.cell Da (.lst acc)] ++ (shs acc dacc ++ M)) →
            Post K cl repV R M W σ Q (finX js (preX dacc (match (fe ρ3).bind fun x ρ4 => Ev.ok (some x.1) (wipeE ρ4 js) with
              | .ok (some d) ρ1 => (match lcLoopX (lcBody js tp fc fe) (ds.drop (i + 1)) ρ1 with
                | .ok ds ρ2 => .ok (d :: ds) ρ2
                | .exc x ρ2 => .exc x ρ2
                | .stuck => .stuck)
              | .ok none ρ1 => lcLoopX (lcBody js tp fc fe) (ds.drop (i + 1)) ρ1
              | .exc x ρ1 => .exc x ρ1
              | .stuck => .stuck))) →
            tE K cl (wBlk W σ) fe σ' H3 fun y H4 => ∃ acc, H4 Da = some (.lst acc) ∧ acc.length < sizeLine ∧ Inv' (i + 1) (upd H4 Da (.lst (acc ++ [y]))) := fun {ρ3 H3} s3 p3 => by
          refine ⟨ρ3, P, _, s3, ?_⟩
          cases ef : fe ρ3 with
          | ok x4 ρ4 =>
            rw [ef] at p3
            simp only [Ev.bind] at p3
            rw [preX_cons] at p3
            rintro y H4 N rfl s4
            obtain ⟨c1, c2⟩ := lc_add hacc hl' hke s4
            exact ⟨acc, c1, hsz (by omega), ρ4, acc ++ [y], dacc ++ [x4.1], by rw [List.length_append, List.length_append, hacc]; rfl, c2, p3, by rw [List.length_append]; exact Nat.succ_le_succ hd⟩
          | exc x4 ρ4 =>
            rw [ef] at p3
            exact fun H' dx s4 xo => exq p3 s4 xo
          | stuck => rw [ef] at p3; exact p3.elim
        cases fc with
        | none =>
          unfold tcdX tYes
          dsimp only
          rw [if_pos rfl]
          exact fin s3 e
        | some c =>
          dsimp only at e
          refine ⟨ρ2, P, _, s3, ?_⟩
          cases ec : c ρ2 with
          | ok bb ρ3 =>
            rw [ec] at e
            simp only [Ev.bind] at e
            rintro b H3 N ⟨rfl, rfl⟩ s4
            cases b with
            | true =>
              rw [if_pos rfl]
              rw [if_pos rfl] at e
              exact fin s4 e
            | false =>
              rw [if_neg Bool.false_ne_true]
              rw [if_neg Bool.false_ne_true] at e
              exact ⟨ρ3, acc, dacc, hacc, (Sta.wiped s4 js).other (by rw [wipe_length, hl']) fun i hi => (hke i hi).symm, e, by omega⟩
          | exc x4 ρ4 =>
            rw [ec] at e
            exact fun H' dx s4 xo => exq e s4 xo
          | stuck => rw [ec] at e; exact e.elim
    · left
      have ei : i = ds.length := by omega
      subst ei
      refine ⟨h1, ?_⟩
      rw [List.drop_length] at e
      simp only [lcLoopX, preX, finX, List.append_nil] at e
      have s2 : Sta K cl σ H P (wipeE ρ js) ([.cell Da (.lst acc)] ++ (shs acc dacc ++ M)) := s.other (by rw [wipe_length]) fun i hi => (wipe_agree i hi).symm
      refine e (.ref Da) H _ rfl (Sta.mono ex ?_)
      exact Sta.item (N := .cell Da (.lst acc) :: shs acc dacc) (N' := [.val (.ref Da) (.lst dacc) .root]) s2 fun L g => Good.packLst (vs := acc) g hacc
  · rw [if_neg hlen] at p
    exact p.elim
variable {elt tg iter : Expr} {ifs : List Expr} {scope : Scope} {own : List (Str × Nat)} {js : List Nat} {tp : Bool} {g : TG} {fi : FEnv → Ev (List D)} {fc : Option (FEnv → Ev Bool)} {fe : FEnv → Ev DO}
abbrev XbX (X : Cx) (scope : Scope) (s : Shared) (H : Hp) (C : Addr) (cl' : List (Str × Addr)) (fp : List Addr) (W' : WX) : Cx := blkX X s H scope (compEnvC scope cl' C X.env) fp W'
theorem se_lcX (hst : X.stack = X.env :: X.outer) (hf : X.env.frame = some X.env.locals) (tk : Takes X W) (hc : X.calm = true) (hN : X.N.Nodup) (hi : PI X tg iter (tI X.K cl W fi)) (ok : BlkOk X.N X.env.scope scope own) (hj : own.map (·.2) = js) (hok : TgR X.K cl js tp g)
    (hg : ∀ (s : Shared) (H : Hp) (C : Addr) (cl' : List (Str × Addr)) (fp : List Addr) (W' : WX), PG (XbX X scope s H C cl' fp W') tg g) (ht : ∀ (s : Shared) (H : Hp) (C : Addr) (cl' : List (Str × Addr)) (fp : List Addr) (W' : WX), PTs (XbX X scope s H C cl' fp W') ifs (tcdX X.K cl W' fc))
    (he : ∀ (s : Shared) (H : Hp) (C : Addr) (cl' : List (Str × Addr)) (fp : List Addr) (W' : WX), PE (XbX X scope s H C cl' fp W') elt (tE X.K cl W' fe)) (hs : ∀ x, foldedSetIterable iter X.env x = pure x) :
    PE X (.ListComp elt [⟨tg, iter, ifs, 0⟩] scope pos) (tE X.K cl W (lcFX js tp fi fc fe)) := by
  subst hj
  exact PE.of (pe_lcX hst hf tk hc hN hi ok ⟨hg, ht, he⟩ hs) fun σ H Q h => lc_readX hok h
theorem ss_asgLcX {i : Nat} {y : Str} {py spos : Pos} (hst : X.stack = X.env :: X.outer) (hf : X.env.frame = some X.env.locals) (tk : Takes X W) (hc : X.calm = true) (hN : X.N.Nodup) (hy : X.N[i]? = some y) (hyl : X.env.scope.names.lookup y = some .local)
    (hsw : swapsWith (.ListComp elt [⟨tg, iter, ifs, 0⟩] scope pos) (some (.Name y py)) spos.line X.env = pure true) (hi : PI X tg iter (tI X.K cl W fi)) (ok : BlkOk X.N X.env.scope scope own) (hj : own.map (·.2) = js) (hok : TgR X.K cl js tp g)
    (hg : ∀ (s : Shared) (H : Hp) (C : Addr) (cl' : List (Str × Addr)) (fp : List Addr) (W' : WX), PG (XbX X scope s H C cl' fp W') tg g) (ht : ∀ (s : Shared) (H : Hp) (C : Addr) (cl' : List (Str × Addr)) (fp : List Addr) (W' : WX), PTs (XbX X scope s H C cl' fp W') ifs (tcdX X.K cl W' fc))
    (he : ∀ (s : Shared) (H : Hp) (C : Addr) (cl' : List (Str × Addr)) (fp : List Addr) (W' : WX), PE (XbX X scope s H C cl' fp W') elt (tE X.K cl W' fe)) (hs : ∀ x, foldedSetIterable iter X.env x = pure x) (hio : io.contains i = false) :
    PS X (.Assign [.Name y py] (.ListComp elt [⟨tg, iter, ifs, 0⟩] scope pos) spos) (ttS X cl W io fun ρ => (lcFX js tp fi fc fe ρ).fl fun x ρ1 => .nx (ρ1.set i (some x))) := by
  subst hj
  refine PS.of (ps_setLcX hst hf tk hc hN hy hyl hsw hi ok ⟨hg, ht, he⟩ hs) fun D σ H ⟨ρ, R, M, k, s, hk, p⟩ => ?_
  refine lc_readX (Q := fun x H1 => gName i x σ H1 D.nx) hok ⟨ρ, R, M, s, (p.bindF hk).mono fun v H1 ⟨x, N, ρ1, hr, s1, p1⟩ => ?_⟩
  subst hr
  exact p1 _ _ s1.put (hk.set hio)
/-! over AST nodes -/
variable {pg : Pg} {it : It} {tc : T} {hcb : Bool} {ec : E} {n : Nat} {x : Str} {p' : Pos} {c : Expr}
theorem Bd.blkX {scope : Scope} {s : Shared} {H : Hp} {C : Addr} {cl' : List (Str × Addr)} {fp : List Addr} {W' : WX} (B : Bd X W n) : Bd (XbX X scope s H C cl' fp W') W' n := ⟨B.hr, B.hc, takesX⟩
theorem rlX_no {W' : WX} : PTs X [] (tcdX X.K cl W' (if false then some (evT pg tc) else none)) := pts_nil
theorem rlX_if {W' : WX} (h : QT X cl W' pg c tc) : PTs X [c] (tcdX X.K cl W' (if true then some (evT pg tc) else none)) := pts_one h
theorem re_lcX (own : List (Str × Nat)) (hst : X.stack = X.env :: X.outer) (hf : X.env.frame = some X.env.locals) (hN : X.N.Nodup) (B : Bd X W n) (hi : QI X cl W pg tg iter it) (ok : blkC X.N X.env.scope scope own = true) (hok : TgR X.K cl js tp g)
    (hg : ∀ (s : Shared) (H : Hp) (C : Addr) (cl' : List (Str × Addr)) (fp : List Addr) (W' : WX), PG (XbX X scope s H C cl' fp W') tg g) (ht : ∀ (s : Shared) (H : Hp) (C : Addr) (cl' : List (Str × Addr)) (fp : List Addr) (W' : WX), PTs (XbX X scope s H C cl' fp W') ifs (tcdX X.K cl W' (if hcb then some (evT pg tc) else none)))
    (he : ∀ (s : Shared) (H : Hp) (C : Addr) (cl' : List (Str × Addr)) (fp : List Addr) (W' : WX), QE (XbX X scope s H C cl' fp W') cl W' pg elt ec) (hj : own.map (·.2) = js := by rfl) (hs : ∀ x, foldedSetIterable iter X.env x = pure x := by intro _; rfl) :
    QE X cl W pg (.ListComp elt [⟨tg, iter, ifs, 0⟩] scope pos) (.lcX js tp it tc hcb ec) := se_lcX hst hf B.tk B.hc hN hi (blkOk_by ok) hj hok hg ht he hs
theorem rs_asgLcX {spos : Pos} (i : Nat) (own : List (Str × Nat)) (hst : X.stack = X.env :: X.outer) (hf : X.env.frame = some X.env.locals) (hN : X.N.Nodup) (B : Bd X W n) (hi : QI X cl W pg tg iter it) (ok : blkC X.N X.env.scope scope own = true) (hok : TgR X.K cl js tp g)
    (hg : ∀ (s : Shared) (H : Hp) (C : Addr) (cl' : List (Str × Addr)) (fp : List Addr) (W' : WX), PG (XbX X scope s H C cl' fp W') tg g) (ht : ∀ (s : Shared) (H : Hp) (C : Addr) (cl' : List (Str × Addr)) (fp : List Addr) (W' : WX), PTs (XbX X scope s H C cl' fp W') ifs (tcdX X.K cl W' (if hcb then some (evT pg tc) else none)))
    (he : ∀ (s : Shared) (H : Hp) (C : Addr) (cl' : List (Str × Addr)) (fp : List Addr) (W' : WX), QE (XbX X scope s H C cl' fp W') cl W' pg elt ec) (hk : X.env.scope.kind = .function)
    (hy : X.N[i]? = some x := by rfl) (hyl : X.env.scope.names.lookup x = some .local := by rfl) (hl : (p'.line == pos.line) = true := by rfl)
    (hsa : (scope.names.any fun (n, k) => n == x && (k == .local || k == .cell)) = false := by rfl) (hj : own.map (·.2) = js := by rfl) (hs : ∀ x, foldedSetIterable iter X.env x = pure x := by intro _; rfl) (hio : io.contains i = false := by rfl) :
    QS X cl W io pg (.Assign [.Name x p'] (.ListComp elt [⟨tg, iter, ifs, 0⟩] scope pos) spos) (.asg i (.lcX js tp it tc hcb ec)) := ss_asgLcX hst hf B.tk B.hc hN hy hyl (sw_true hk hyl hl hsa) hi (blkOk_by ok) hj hok hg ht he hs hio
end
end FB
namespace FB
open PySem PySem.Spec L2 PyProof.Rows
/-! ### own exceptions that bear one field -/
/-- so far what is looked at -/
theorem exoB_ok {K : PySem.W.Frag} {C : Addr} (h : exoB K C = true) : ∃ nm q N bs bm sn sub ab col dd k0 k1 k2 k3 k5, K.lookup C = some (excClassObj nm q C N bs bm true sn sub ab col dd k0 k1 k2 k3 k5 "ValueError.__new__") ∧ PySem.HandSPX.refsVE bm = true := by
  unfold exoB at h
  split at h
  · rename_i dd d sl look
    split at h
    · rename_i C2 up k0 k1 k2 k3 mk k5 em es
      simp only [Bool.and_eq_true, decide_eq_true_eq, Bool.not_eq_true'] at h
      obtain ⟨rfl, rfl, h1, h2, h3⟩ := h
      obtain ⟨nm, bs, mro, ns, qn, hd, sn, sub, ab, col, del⟩ := d
      cases sl with
      | mk l =>
        simp only at em es h1 h2
        subst em es h1 h2
        exact ⟨nm, qn, ns, bs, up, sn, sub, ab, col, dd, k0, k1, k2, k3, k5, look, h3⟩
    · cases h
  · cases h
theorem clsBAt_ok {K : PySem.W.Frag} {C : Addr} {m : Str} {b : String} (h : clsBAt K C m b = true) : PySem.W.findCls K (.ref C) (.type "type") m = some (.val (.builtin b)) := by
  unfold clsBAt at h
  split at h
  · rename_i n e
    rw [e, of_decide_eq_true h]
  · cases h
/-- a class whose __init__ is ValueError's, read off it -/
structure BInit (K : PySem.W.Frag) (C : Addr) : Prop where
  ga : PySem.W.specialIn K (.ref C) "__getattribute__" = some (some (.builtin "type.__getattribute__"))
  rd : ∃ mc, PySem.W.readsIn K C mc = true ∧ PySem.W.findCls K (.ref C) mc "__init__" = some (.val (.builtin "ValueError.__init__"))
section
variable {X : Cx} {cl : Nat → Addr} {W : WX} {n : Nat} {io : List Nat} {pg : Pg} {e : Expr} {es : List Expr} {pos p1 p2 p3 p4 p5 p6 p7 p8 p9 pos' : Pos} {x s f m : Str} {ta : TA}
theorem pe_binit {C : Addr} {pl : Sem Bool} (hg : Gl X x) (hm : X.mg x = some (.ref C)) (hc : BInit X.K C) (ha : PA X (e :: es) ta) (hdb : (x == ("__debug__" : Str)) = false)
    (ht : eval (.Call (.Attribute (.Name x p1) "__init__" p2) (e :: es) [] pos) X.env = (do
      let ov ← eval (.Name x p1) X.env
      standAt p2.atName
      let (f, first) ← holding [ov] (getMethod ov "__init__" pl)
      callWith pos f first (backTo pos (starEach (e :: es) X.env)) (backToKw pos (keywordEach [] X.env))))
    (hst : starEach (e :: es) X.env = (false, eval e X.env) :: starEach es X.env) (hpl : (backTo pos (starEach es X.env)).any (·.1) = false) :
    PE X (.Call (.Attribute (.Name x p1) "__init__" p2) (e :: es) [] pos) (tVeI X.K ta) where
  run pins s σ H Q I h := by
    obtain ⟨mc, h1, h2⟩ := hc.rd
    apply PySem.W.methodCall_KW (ld_glob I hg hm _ hdb) ht
    apply PySem.W.method_cls I.kIn hc.ga (PySem.W.cls_value I.kIn h1 h2 (by decide +kernel) _)
    have I1 := I.tok (s.toks + 1)
    apply PyProof.Rows.callWith_method1 (thn (ha.run pos pins _ σ H _ I1 h) _) hst hpl
    rintro us t ⟨vs, H1, I2, r, a, C', ws, rfl, few, T, ea, q⟩
    cases r with
    | @cons _ u0 _ ur r0 rr =>
      cases (r0 : RelV (V.ref a) u0)
      exact oinit_ok T I2 ea (by rw [← Paired.length rr, sizeLine_eq]; omega) fun t' J => ⟨V.non, H1, J, rfl, q⟩
/-- C.__init__: what it is made of, what it leaves -/
def spI (C : Addr) (f : Str) : Sp := fun vs H Q _ => ∃ (a : Addr) (v : V), vs = [.ref a, v] ∧ H a = some (exo a C none) ∧ ∀ dx, H dx = none → dx ≠ a → Q .non (upd (upd H dx (exd dx [(f, v)])) a (exo a C (some dx)))
/-- base.__init__(self, text); self.f = x -/
def tInit (K : PySem.W.Frag) (f : Str) : TS := fun D σ H => ∃ (a C : Addr) (v : V), σ = [some (.ref a), some v] ∧ OexC K C ∧ PySem.W.findIn K (.ref C) f = some none ∧ H a = some (exo a C none) ∧
  ∀ dx, H dx = none → dx ≠ a → D.nx σ (upd (upd H dx (exd dx [(f, v)])) a (exo a C (some dx)))
theorem pss_init {C : Addr} {j : Nat} {pl : Sem Bool} {b : Str} (hm : X.mg b = some (.ref C)) (hc : BInit X.K C) (hN0 : X.N[0]? = some s) (hN1 : X.N[1]? = some x) (hv0 : Vis X.env.scope s) (hv1 : Vis X.env.scope x) (hd0 : (s == ("__debug__" : Str)) = false) (hd1 : (x == ("__debug__" : Str)) = false)
    (hc0 : (s == ("__classdict__" : Str)) = false) (hc1 : (x == ("__classdict__" : Str)) = false) (hg : Gl X b) (hdb : (b == ("__debug__" : Str)) = false)
    (ht : eval (.Call (.Attribute (.Name b p1) "__init__" p2) [.Name s p3, .Constant (.str m) j p4] [] pos) X.env = (do
      let ov ← eval (.Name b p1) X.env
      standAt p2.atName
      let (f, first) ← holding [ov] (getMethod ov "__init__" pl)
      callWith pos f first (backTo pos (starEach [.Name s p3, .Constant (.str m) j p4] X.env)) (backToKw pos (keywordEach [] X.env))))
    (hst : starEach [.Name s p3, .Constant (.str m) j p4] X.env = (false, eval (.Name s p3) X.env) :: starEach [.Constant (.str m) j p4] X.env) (hst2 : starEach [.Constant (.str m) j p4] X.env = (false, eval (.Constant (.str m) j p4) X.env) :: starEach [] X.env) (hpl : (backTo pos (starEach [.Constant (.str m) j p4] X.env)).any (·.1) = false)
    (hs1 : swapsWith (.Call (.Attribute (.Name b p1) "__init__" p2) [.Name s p3, .Constant (.str m) j p4] [] pos) none p5.line X.env = pure false) (hs2 : swapsWith (.Name x p8) (some (.Attribute (.Name s p6) f p7)) p9.line X.env = pure false) :
    PSs X [.Expr (.Call (.Attribute (.Name b p1) "__init__" p2) [.Name s p3, .Constant (.str m) j p4] [] pos) p5, .Assign [.Attribute (.Name s p6) f p7] (.Name x p8) p9] (tInit X.K f) :=
  PSs.of (pss_cons (ps_expr (pe_binit hg hm hc (pa_cons (pe_var hN0 hv0 hd0 hc0) (pa_cons pe_str pa_nil hst2) hst) hdb ht hst hpl) hs1) (pss_cons (ps_ost (pe_var hN0 hv0 hd0 hc0) (pe_var hN1 hv1 hd1 hc1) hs2) pss_nil))
    fun D σ H ⟨a, C', v, e, T, hno, ea, q⟩ => by
      subst e
      exact ⟨.ref a, rfl, a, C', [.str m], rfl, by simp, T, ea, v, rfl, .ref a, rfl, a, C', rfl, T, hno, .inl ⟨ea, q⟩⟩
end
section
variable {P : Program} {w : World} {K : PySem.W.Frag} {mg : Str → Option Value} {base : Heap} {cl : Nat → Addr}
/-- a def whose body asks for no room -/
theorem FunZ.okX0 {x qual : Str} {st : Stmt} {f : Addr} {fd : FuncData} {N ps : List Str} {k : Nat} {sp : Sp} (F : FunZ K x qual st f fd) (S : FnScope N ps (defScope st)) (len : ∀ vs H Q E, sp vs H Q E → vs.length = ps.length)
    (hbody : ∀ (cdv : Value) (A : Around) (outer : List Env) (s : Shared) (H : Hp) (vs : List V) (Q : VK) (E : XK), sp vs H Q E →
      ∃ t, PSs (cxOf (L2.CX P w) P w K mg base N qual (defScope st) f cdv A outer s H E) (defBody st) t ∧ t { nx := fun _ H' => Q .non H', rt := Q } (L2.start N vs) H) : FnR P w K mg base (L2.CX P w) k f fd ps sp := by
  obtain ⟨oc, od, dV, kV, doc, pm, an, cdv, ct, osl, rfl, lk, hcd⟩ := F.ex
  exact fn_of0 lk hcd S len fun A outer s H vs Q E _ hsp => hbody cdv A outer s H vs Q E hsp
/-- an exception's __init__ keeps its promise -/
theorem init_ok {x qual : Str} {st : Stmt} {f : Addr} {fd : FuncData} {N ps : List Str} {n : Nat} {C : Addr} {fl : Str} (F : FunZ K x qual st f fd) (S : FnScope N ps (defScope st)) (hN : N.length = 2) (hps : ps.length = 2) (T : OexC K C) (hno : PySem.W.findIn K (.ref C) fl = some none)
    (body : ∀ (cdv : Value) (A : Around) (outer : List Env) (s : Shared) (H : Hp) (E : XK), PSs (cxOf (L2.CX P w) P w K mg base N qual (defScope st) f cdv A outer s H E) (defBody st) (tInit K fl)) :
    FnR P w K mg base (L2.CX P w) n f fd ps (spI C fl) := by
  refine F.okX0 S (fun vs H Q E ⟨a, v, e, _⟩ => by rw [e, hps]; rfl) fun cdv A outer s H vs Q E ⟨a, v, e, ea, q⟩ => ⟨_, body cdv A outer s H E, ?_⟩
  subst e
  refine ⟨a, C, v, ?_, T, hno, ea, q⟩
  unfold L2.start
  rw [hN]
  rfl
end
section
variable {X : Cx} {cl : Nat → Addr} {W : WX} {nn : Nat} {io : List Nat} {pg : Pg} {e : Expr} {ea : E} {x f : Str} {p pos pos' : Pos}
/-- C(e), made to be raised -/
def tMkF (C : Addr) (f : Str) (te : TE) : L2.St → Hp → XK → Prop := fun σ H Q => te σ H fun x H1 => ∃ v, [x] = [v] ∧ ∀ dx, H1 dx = none → Q (.ref C) (some dx) (upd H1 dx (.xd [(f, v)]))
theorem pmk_field {C fI : Addr} {fd : FuncData} {ps : List Str} {te : TE} (T : OexC X.K C) (iC : PySem.W.findIn X.K (.ref C) "__init__" = some (some (.ref fI))) (tI : PySem.W.typeIn X.K (.ref fI) = some (.type "function"))
    (F : FnR X.prog X.w X.K X.mg X.base (L2.CX X.prog X.w) 0 fI fd ps (spI C f)) (hr : Rm 1 X.A) (hb : Binds X.K fd ps []) (hx : Passes (L2.CX X.prog X.w) X (fun _ _ _ => False)) (hg : Gl X x) (hm : X.mg x = some (.ref C)) (he : PE X e te) (hdb : (x == ("__debug__" : Str)) = false)
    (hst : starEach [e] X.env = (false, eval e X.env) :: starEach [] X.env) (hpl : (backTo pos (starEach [] X.env)).any (·.1) = false) : PMk X (.Call (.Name x p) [e] [] pos) (tMkF C f te) := by
  intro pins s σ H Q I rd
  obtain ⟨_, _, _, _, bm, _, _, _, _, _, _, _, _, _, _, hC, hbm⟩ := T.cls
  apply wpAny_Call_Name_kw (ld_glob I hg hm _ hdb)
  have args := (pa_cons he pa_nil hst).run pos pins s σ H (fun vs H1 => ∃ v, vs = [v] ∧ ∀ dx, H1 dx = none → Q (.ref C) (some dx) (upd H1 dx (.xd [(f, v)]))) I rd
  apply PySem.W.callWith_K (h₀ := X.base) I.ok.mod.kin T.kC (thn args _) hst hpl
  rintro us ⟨hp, g, dr, tk, os⟩ ⟨vs, H1, I1, r1, v, rfl, q⟩
  refine ⟨I1.kIn, ?_⟩
  obtain ⟨u, rfl, ru⟩ : ∃ u, us = [u] ∧ RelV v u := by
    cases r1 with
    | cons a b => cases b; exact ⟨_, rfl, a⟩
  have le : hp.objs.size ≤ hp.objs.size + 1 := Nat.le_succ _
  obtain ⟨a, ha⟩ : ∃ a, a = hp.objs.size + 1 := ⟨_, rfl⟩
  have grown : ∀ b o, hp.get? b = some o → ((hp.push (PySem.W.kdv_tup [u])).push (PySem.HandSPX.excO C hp.objs.size)).get? b = some o := fun b o e => Heap.get?_push_of_some _ (Heap.get?_push_of_some _ e)
  have made : ((hp.push (PySem.W.kdv_tup [u])).push (PySem.HandSPX.excO C hp.objs.size)).get? a = some (PySem.HandSPX.excO C hp.objs.size) := by
    rw [ha]
    heap_get
  have free : H1 a = none := I1.hok.fresh (ha ▸ le)
  have I2 := I1.laid (t' := tk) (a := a) (o := exo a C none) grown (ha ▸ le) (exo_ok made)
  have run := F.run _ X.stack _ _ ⟨[.ref a, u], []⟩ [.ref a, u] [.ref a, v]
    (fun v' H2 => v' = .non ∧ ∃ d, H1 d = none ∧ d ≠ a ∧ H2 = upd (upd (upd H1 a (exo a C none)) d (exd d [(f, v)])) a (exo a C (some d))) (fun _ _ _ => False)
    (hr.made C [u]) (I2.env0.make C [u] []) (hb _ [.ref a, u] I2.kIn (F.len [.ref a, v] _ (fun _ _ => True) (fun _ _ _ => True) ⟨a, v, rfl, upd_same (H := H1) (o := exo a C none), fun _ _ _ => trivial⟩)) (.cons rfl (.cons ru .nil))
    ⟨a, v, rfl, upd_same, fun dx n ne => ⟨rfl, dx, by rw [upd_ne ne] at n; exact n, ne, rfl⟩⟩
  subst ha
  show wpAny _ _ (call (.ref C) [u]) _ _ _
  apply wpAny_call
  have one : [u].length ≤ sizeLine := by rw [sizeLine_eq]; simp
  refine PySem.HandSPX.call_own PySem.F.excBase_ValueError (fun Y => PySem.HandSPX.refsVE_contains Y bm hbm) (I1.kIn _ _ hC) (PySem.W.looks_findIn I1.kIn iC) (fun self => PySem.W.bind_fn I1.kIn self tI) one (codeAny_mono run ?_)
  rintro (er | fl) t back
  · exact hx pins σ _ _ er t I2 back
  · cases fl with
    | ret z =>
      obtain ⟨v', H3, o3, b3, un3, ok3, rz, rfl, d, n, ne, rfl⟩ := back
      obtain ⟨h3, g3, d3, t3, os3⟩ := t
      refine ⟨rz, mk_end (raises_own T.exC T.tyC) I1 le grown un3 ok3 o3 b3 upd_same (by rw [upd_ne ne, upd_same]) n ?_⟩
      have e : upd (del (upd (upd (upd H1 (hp.objs.size + 1) (exo (hp.objs.size + 1) C none)) d (exd d [(f, v)])) (hp.objs.size + 1) (exo (hp.objs.size + 1) C (some d))) (hp.objs.size + 1)) d (.xd [(f, v)]) = upd H1 d (.xd [(f, v)]) := by
        funext b
        by_cases hb : b = d
        · rw [hb, upd_same, upd_same]
        · rw [upd_ne hb, upd_ne hb]
          by_cases hba : b = hp.objs.size + 1
          · rw [hba, del_same, free]
          · rw [del_ne hba, upd_ne hba, upd_ne hb, upd_ne hba]
      rw [e]
      exact q d n
    | next => exact back.elim
    | brk => exact back.elim
    | cont => exact back.elim
theorem XOk.one {H : Hp} {c : Nat} {f : Str} {v : V} {d : D} {dx : Addr} (h : H dx = some (.xd [(f, v)])) (hv : Flat v d) : XOk H ⟨c, [f], [d]⟩ (some dx) :=
  Or.inr ⟨by simp, dx, [v], rfl, h, rfl, .cons hv .nil⟩
/-- what the written part says of an own exception class with an own __init__ -/
structure ExoC (P : Program) (w : World) (K : PySem.W.Frag) (mg : Str → Option Value) (base : Heap) (C : Addr) (f : Str) : Prop where
  T : OexC K C
  ini : ∃ (fI : Addr) (fd : FuncData) (ps : List Str), PySem.W.findIn K (.ref C) "__init__" = some (some (.ref fI)) ∧ PySem.W.typeIn K (.ref fI) = some (.type "function") ∧ Binds K fd ps [] ∧ FnR P w K mg base (L2.CX P w) 0 fI fd ps (spI C f)
theorem rs_raiseF (c : Nat) (f : Str) (B : Bd X W (nn + 1)) (C : ExoC X.prog X.w X.K X.mg X.base (cl c) f) (hm : X.mg x = some (.ref (cl c))) (he : QE X cl W pg e ea) (hg : Gl X x := by rfl) (hdb : (x == ("__debug__" : Str)) = false := by decide)
    (hst : starEach [e] X.env = (false, eval e X.env) :: starEach [] X.env := by rfl) (hpl : (backTo pos (starEach [] X.env)).any (·.1) = false := by rfl) :
    QS X cl W io pg (.Raise (some (.Call (.Name x p) [e] [] pos)) none pos') (.raisF c f ea) := by
  obtain ⟨fI, fd, ps, h1, h2, h3, F⟩ := C.ini
  have hx : Passes (L2.CX X.prog X.w) X (fun _ _ _ => False) := fun pins σ H s e s' I c => B.tk e s' (XE.of_call (W := W) I (fun _ _ _ h => h.elim) c)
  refine PS.of (ps_raise B.hc B.tk (pmk_field C.T h1 h2 F (B.hr.mono (by omega)) h3 hx hg hm he hdb hst hpl)) fun D σ H ⟨ρ, R, M, k, s, hk, p⟩ => ?_
  have p : PostS X.K cl R M W io k D ((evE pg ea ρ).fl fun x ρ1 => if x.1.flat then .exc ⟨c, [f], [x.1]⟩ ρ1 else .stuck) := p
  refine ⟨ρ, R, M, s, (p.bindF hk).mono fun v H1 ⟨y, N, ρ1, hr, s1, p1⟩ => ⟨v, rfl, fun dx n => ?_⟩⟩
  subst hr
  split at p1
  · rename_i fl
    obtain ⟨Le, en, g⟩ := Sta.front (N := [.val v y.1 y.2]) s1
    have fv := flat_of g fl
    have s2 : Sta X.K cl σ H1 R ρ1 M := Sta.ofFront (N := []) en g.tail
    obtain ⟨Le2, en2, g2⟩ := s2
    exact p1 σ (upd H1 dx (.xd [(f, v)])) (some dx) ⟨Le2, en2, g2.heap (Ex.new n)⟩ hk (XOk.one upd_same fv)
  · exact p1.elim
end
end FB
namespace FB
open PySem L2 PyProof.Rows
/-! ### suites whose exception may bear fields -/
section
variable {X : Cx} {cl : Nat → Addr} {W : WX} {nn : Nat} {io : List Nat} {pg : Pg}
theorem XOk.mono {H H' : Hp} {x : Exn} {d : Option Addr} (e : Ex H H') (h : XOk H x d) : XOk H' x d := by
  rcases h with h | ⟨h1, dx, vs, h2, h3, h4⟩
  · exact Or.inl h
  · exact Or.inr ⟨h1, dx, vs, h2, e _ _ h3, h4⟩
theorem Sta.xd {K : PySem.W.Frag} {σ : L2.St} {H R : Hp} {ρ : FEnv} {M : List Item} {x : Exn} {d : Option Addr} (s : Sta K cl σ H R ρ M) (h : XOk H x d) : ∃ R', Ex R R' ∧ XOk R' x d ∧ Sta K cl σ H R' ρ M := by
  rcases h with h | ⟨h1, dx, vs, h2, h3, h4⟩
  · exact ⟨R, Ex.refl R, Or.inl h, s⟩
  · obtain ⟨Le, a, g⟩ := s
    obtain ⟨R', e1, e2, g'⟩ := g.xd h3
    exact ⟨R', e1, Or.inr ⟨h1, dx, vs, h2, e2, h4⟩, Le, a, g'⟩
/-- slot i holds the exception, its fields stand -/
def tS2 (K : PySem.W.Frag) (cl : Nat → Addr) (W : WX) (io : List Nat) (i : Nat) (a : Addr) (x : Exn) (d : Option Addr) (f : FEnv → Fl) : TS := fun D σ H => ∃ ρ R M k, Sta K cl σ H R ρ M ∧ Kp io k σ ∧ k i = some (some (.ref a)) ∧ XOk R x d ∧ PostS K cl R M W io k D (f ρ)
abbrev QX2 (X : Cx) (cl : Nat → Addr) (io : List Nat) (i : Nat) (a : Addr) (x : Exn) (d : Option Addr) (pg : Pg) (ss : List Stmt) (s : Ss) : Prop := PSs X ss (tS2 X.K cl W0 io i a x d (evSs pg s))
def tB2 (i : Nat) (a : Addr) (x : Exn) (d : Option Addr) (b : Bool) : TE := fun σ H Q => σ[i]? = some (some (.ref a)) ∧ XOk H x d ∧ Q (.bl b) H
def PB2 (X : Cx) (i : Nat) (a : Addr) (x : Exn) (d : Option Addr) (sub : Nat → Nat → Option Bool) (e : Expr) (b : XB) : Prop := ∀ r, evX sub x.c b = some r → PE X e (tB2 i a x d r)
variable {st : Stmt} {ss : List Stmt} {s : S} {s2 sb sh : Ss} {i : Nat} {a : Addr} {xx : Exn} {d : Option Addr}
theorem rx2_nil : QX2 X cl io i a xx d pg [] .nil := PSs.of pss_nil fun D σ H ⟨ρ, R, M, k, s, hk, _, _, p⟩ => p σ H s hk
theorem rx2_cons (h1 : QS X cl W0 io pg st s) (h2 : QX2 X cl io i a xx d pg ss s2) : QX2 X cl io i a xx d pg (st :: ss) (.cons s s2) :=
  PSs.of (pss_cons h1 h2) fun D σ H ⟨ρ, R, M, k, s', hk, e, xo, p⟩ => by
    refine ⟨ρ, R, M, k, s', hk, ?_⟩
    have p : PostS X.K cl R M W0 io k D ((evS pg s ρ).seq (evSs pg s2)) := p
    cases ef : evS pg s ρ with
    | nx ρ1 =>
      rw [ef] at p
      exact fun σ1 H1 s1 hk1 => ⟨ρ1, R, M, k, s1, hk1, e, xo, p⟩
    | br ρ1 => rw [ef] at p; exact p
    | ct ρ1 => rw [ef] at p; exact p
    | rt d o ρ1 => rw [ef] at p; exact p
    | exc x ρ1 => rw [ef] at p; exact p
    | stuck => rw [ef] at p; exact p
theorem rx2_stuck {t : TS} (h : PSs X (st :: ss) t) {f : FEnv → Fl} (hf : ∀ ρ, f ρ = .stuck) : PSs X (st :: ss) (tS2 X.K cl W0 io i a xx d f) :=
  PSs.of h fun D σ H ⟨ρ, R, M, k, s, hk, e, xo, p⟩ => by rw [hf] at p; exact p.elim
theorem rx2_asg {x : Str} {e : Expr} {p' pos : Pos} {b : XB} (j : Nat) (hcur : pg.cur = some xx) (h : PB2 X i a xx d pg.sub e b) (h2 : QX2 X cl io i a xx d pg ss s2) (hi0 : i ∈ io) (hN : X.N.Nodup) (hi : X.N[j]? = some x) (hx : Loc X.env.scope x)
    (hs : swapsWith e (some (.Name x p')) pos.line X.env = pure false) (hf : X.fn x = true ∨ X.env.scope.names.lookup x = some .local) (hio : io.contains j = false) :
    QX2 X cl io i a xx d pg (.Assign [.Name x p'] e pos :: ss) (.cons (.asgX2 j b) s2) := by
  have unf : ∀ ρ, evSs pg (.cons (.asgX2 j b) s2) ρ = ((opt' (evX pg.sub xx.c b) fun b => .nx (ρ.set j (some (.bl b, .sh)))) : Fl).seq (evSs pg s2) := fun ρ => by
    show ((match pg.cur with
      | some x => opt' (evX pg.sub x.c b) fun b => .nx (ρ.set j (some (.bl b, .sh)))
      | none => .stuck) : Fl).seq (evSs pg s2) = _
    rw [hcur]
  cases eb : evX pg.sub xx.c b with
  | none =>
    refine ⟨fun pins s' σ H D I ⟨ρ, R, M, k, s, hk, e', xo, p⟩ => ?_⟩
    rw [unf, eb] at p
    exact p.elim
  | some r =>
    refine PSs.of (pss_cons (ps_set hN hi hx (h r eb) hs hf) h2) fun D σ H ⟨ρ, R, M, k, s, hk, e', xo, p⟩ => ?_
    rw [unf, eb] at p
    refine ⟨(hk i hi0).trans e', xo.mono s.raw, ?_⟩
    have s1 : Sta X.K cl σ H R ρ ([.val (.bl r) (.bl r) .sh] ++ M) := Sta.item (N := []) (N' := [.val (.bl r) (.bl r) .sh]) s fun L g => g.flat (.bl r)
    exact ⟨_, R, M, k, s1.put, hk.set hio, e', xo, p⟩
/-! what is asked of it -/
theorem pb2_not {e : Expr} {b : XB} {pos : Pos} {sub : Nat → Nat → Option Bool} (h : PB2 X i a xx d sub e b) : PB2 X i a xx d sub (.UnaryOp .Not e pos) (.not b) := fun r hr => by
  have hr : (evX sub xx.c b).map (fun z => !z) = some r := hr
  cases eb : evX sub xx.c b with
  | none => rw [eb] at hr; cases hr
  | some q =>
    rw [eb] at hr
    cases hr
    exact PE.of (pe_not (h q eb)) fun σ H Q ⟨e1, e2, e3⟩ => ⟨e1, e2, q, rfl, e3⟩
theorem pb2_one {e : Expr} {b : XB} {pos : Pos} {sub : Nat → Nat → Option Bool} (h : PB2 X i a xx d sub e b) : PB2 X i a xx d sub (.BoolOp .And [e] pos) b := fun r hr => pe_one (h r hr)
theorem pb2_and {e e2 : Expr} {rest : List Expr} {b b2 : XB} {pos : Pos} {sub : Nat → Nat → Option Bool} (h : PB2 X i a xx d sub e b) (h2 : PB2 X i a xx d sub (.BoolOp .And (e2 :: rest) pos) b2) : PB2 X i a xx d sub (.BoolOp .And (e :: e2 :: rest) pos) (.and b b2) := fun r hr => by
  cases eb : evX sub xx.c b with
  | none => simp [evX, eb] at hr
  | some q =>
    cases q with
    | true =>
      simp [evX, eb] at hr
      exact PE.of (pe_and (h true eb) (h2 r hr)) fun σ H Q ⟨e1, e2, e3⟩ => ⟨e1, e2, true, rfl, by rw [if_pos rfl]; exact ⟨e1, e2, e3⟩⟩
    | false =>
      simp [evX, eb] at hr
      subst hr
      refine ⟨fun pins s σ H Q I hq => ?_⟩
      obtain ⟨e1, e2', e3'⟩ := hq
      cases eb2 : evX sub xx.c b2 with
      | some q2 => exact (pe_and (h false eb) (h2 q2 eb2)).run pins s σ H Q I ⟨e1, e2', false, rfl, by rw [if_neg (by decide)]; exact e3'⟩
      | none => exact (pe_and (tb := fun _ _ _ => False) (h false eb) ⟨fun pins s σ H Q I hq => hq.elim⟩).run pins s σ H Q I ⟨e1, e2', false, rfl, by rw [if_neg (by decide)]; exact e3'⟩
/-- the caught exception as an object -/
theorem inst_xd {pins : List (Addr × Obj)} {s' : Shared} {σ : L2.St} {H : Hp} {D : Addr} {oe : Obj} (I : Inv X pins σ H s') (hget : s'.heap.get? a = some oe) (hz : Zc (.ref D) d oe) (hf : ∃ vs, oe.data = .fields vs) (xo : XOk H xx d) : ∃ od, PySem.W.InstAt s'.heap a oe D od := by
  obtain ⟨vs, hv⟩ := hf
  obtain ⟨h1, h2⟩ := hz
  rcases xo with ⟨_, hd⟩ | ⟨_, dx, us, hd, hx, _⟩
  · refine ⟨none, hget, h1, by unfold PySem.W.notCls; rw [hv] <;> rfl, ?_⟩
    rw [h2, hd]
    trivial
  · obtain ⟨mA, ⟨od, es, ep, ho, hr⟩, _⟩ : ObjOk X.prog X.w H s'.heap dx (.xd (xx.fs.zip us)) := I.hok dx _ hx
    refine ⟨some od, hget, h1, by unfold PySem.W.notCls; rw [hv] <;> rfl, ?_⟩
    rw [h2, hd]
    exact ho
def rIsX (K : PySem.W.Frag) (D a : Addr) (x : Exn) (d : Option Addr) : List V → Hp → VK → Prop := fun xs H Q => ∃ (c : V) (cv : Value) (b : Bool), xs = [.ref a, c] ∧ XOk H x d ∧ (∀ u, RelV c u → u = cv) ∧ PySem.W.kitOne K (.ref D) cv = some b ∧ Q (.bl b) H
theorem call_isX {D : Addr} {oe : Obj} {pn : List (Addr × Obj)} (C : ExcC X.K D) (hz : Zc (.ref D) d oe) (hf : ∃ vs, oe.data = .fields vs) : CallR (X.suite a ((a, oe) :: pn)) (.builtin "isinstance") (rIsX X.K D a xx d) := by
  rintro pins t σ H xs us Q I r ⟨c, cv, b, rfl, xo, same, yes, q⟩
  obtain ⟨u0, u1, rfl, r0, r1⟩ : ∃ u0 u1, us = [u0, u1] ∧ RelV (V.ref a) u0 ∧ RelV c u1 := by
    cases r with
    | cons r0 r =>
      cases r with
      | cons r1 r => cases r; exact ⟨_, _, rfl, r0, r1⟩
  cases r0
  have e1 := same _ r1
  subst e1
  obtain ⟨hget, _⟩ := I.pin (a, oe) (List.mem_append_left _ List.mem_cons_self)
  obtain ⟨od, J⟩ := inst_xd I hget hz hf xo
  have cls : (PySem.W.clsIn X.K D).isSome = true := by
    obtain ⟨cd, h, _⟩ := PySem.W.any_some C.hd
    rw [h]
    rfl
  exact PySem.W.kia_one (PySem.W.kitx_exc cls C.hg C.hk C.hs C.ha C.hn C.ht C.hm) I.kIn J yes (fun z => nomatch z) fun tk => ⟨.bl b, H, I.kept (t' := tk) fun _ _ z => z, rfl, q⟩
theorem pb2_is {x n : Str} {ce : Expr} {p' pn' pos : Pos} {oe : Obj} {pn : List (Addr × Obj)} {sub : Nat → Nat → Option Bool} {k : Nat} {cv : V} {u : Value} (ok : IsxOk X.K cl sub k cv u) (hz : Zc (.ref (cl xx.c)) d oe) (hf : ∃ vs, oe.data = .fields vs)
    (hm : X.mg x = none) (hc : PE (X.suite a ((a, oe) :: pn)) ce (tC cv)) (hv : bootBuiltins x = some (.builtin "isinstance")) (hg : Gl X x) (hn : x ≠ "__name__") (hdb : (x == ("__debug__" : Str)) = false)
    (hN : X.N[i]? = some n) (hvs : Vis X.env.scope n) (hd : (n == ("__debug__" : Str)) = false) (hcd : (n == ("__classdict__" : Str)) = false)
    (he : starEach [.Name n pn', ce] X.env = (false, eval (.Name n pn') X.env) :: starEach [ce] X.env) (he2 : starEach [ce] X.env = (false, eval ce X.env) :: starEach [] X.env) (hpl : (backTo pos (starEach [ce] X.env)).any (·.1) = false) :
    PB2 (X.suite a ((a, oe) :: pn)) i a xx d sub (.Call (.Name x p') [.Name n pn', ce] [] pos) (.is k) := fun r hr => by
  obtain ⟨h1, h2⟩ := ok.ok xx.c r hr
  exact PE.of (pe_callB (X := X.suite a ((a, oe) :: pn)) (call_isX h1 hz hf) hg hm hv (pa_cons (pe_var (X := X.suite a ((a, oe) :: pn)) hN hvs hd hcd) (pa_cons hc pa_nil he2) he) hn hdb he hpl) fun σ H Q ⟨e1, e2, e3⟩ =>
    ⟨.ref a, e1, cv, u, r, rfl, e2, ok.cv, h2, e3⟩
/-! y = (text, e.f) -/
/-- what the classes caught by c must say, so that f is read off their instances -/
def XfOk (K : PySem.W.Frag) (cl : Nat → Addr) (sub : Nat → Nat → Option Bool) (c : Nat) (f : Str) : Prop := ∀ c', sub c' c = some true → XfC K (cl c') ∧ PySem.W.findIn K (.ref (cl c')) f = some none
theorem look_zip : ∀ {ks : List Str} {vs : List V} {ds : List D} {f : Str} {y : D}, ks.length = vs.length → Paired Flat vs ds → lookF ks ds f = some y → ∃ v, (ks.zip vs).lookup f = some v ∧ Flat v y
  | k :: ks, v :: vs, _, f, y, hl, .cons h r, e => by
    simp only [lookF] at e
    by_cases hk : f = k
    · rw [if_pos hk] at e
      cases e
      exact ⟨v, by simp [hk], h⟩
    · rw [if_neg hk] at e
      obtain ⟨v', h1, h2⟩ := look_zip (Nat.succ.inj hl) r e
      refine ⟨v', ?_, h2⟩
      rw [List.zip_cons_cons, List.lookup_cons]
      have : (f == k) = false := by simpa using hk
      rw [this]
      exact h1
  | [], _, _, _, _, _, _, e => by cases e
theorem rx2_asgF {x n m f : Str} {p' pn' pa pt pos pc : Pos} {oe : Obj} {pn : List (Addr × Obj)} {c j0 x1} (j : Nat) (hcur : pg.cur = some xx) (hsub : pg.sub xx.c c = some true) (ok : XfOk X.K cl pg.sub c f) (hz : Zc (.ref (cl xx.c)) d oe) (hfd : ∃ vs, oe.data = .fields vs)
    (h2 : QX2 (X.suite a ((a, oe) :: pn)) cl io i a xx d pg ss s2) (hi0 : i ∈ io) (hNn : X.N.Nodup) (hj : X.N[j]? = some x) (hx : Loc X.env.scope x) (hN : X.N[i]? = some n) (hvs : Vis X.env.scope n) (hd : (n == ("__debug__" : Str)) = false) (hcd : (n == ("__classdict__" : Str)) = false)
    (hs : swapsWith (.Tuple [.Constant (.str m) j0 pc, .Attribute (.Name n pn') f pa] x1 pt) (some (.Name x p')) pos.line X.env = pure false) (hf : X.fn x = true ∨ X.env.scope.names.lookup x = some .local) (hio : io.contains j = false)
    (he : starEach [.Constant (.str m) j0 pc, .Attribute (.Name n pn') f pa] X.env = (false, eval (.Constant (.str m) j0 pc) X.env) :: starEach [.Attribute (.Name n pn') f pa] X.env) (he2 : starEach [.Attribute (.Name n pn') f pa] X.env = (false, eval (.Attribute (.Name n pn') f pa) X.env) :: starEach [] X.env)
    (hb : attributeBase (.Name n pn') f X.env (eval (.Name n pn') X.env) = eval (.Name n pn') X.env) :
    QX2 (X.suite a ((a, oe) :: pn)) cl io i a xx d pg (.Assign [.Name x p'] (.Tuple [.Constant (.str m) j0 pc, .Attribute (.Name n pn') f pa] x1 pt) pos :: ss) (.cons (.asgXF j (.str m) f) s2) := by
  obtain ⟨T, hno⟩ := ok _ hsub
  refine PSs.of (pss_cons (ps_set (X := X.suite a ((a, oe) :: pn)) hNn hj hx (pe_tup (pa_cons pe_str (pa_cons (pe_xf (X := X) T hno hz hfd (pe_var (X := X.suite a ((a, oe) :: pn)) hN hvs hd hcd) hb) pa_nil he2) he)) hs hf) h2) fun D σ H ⟨ρ, R, M, k, s, hk, e', xo, p⟩ => ?_
  have p : PostS X.K cl R M W0 io k D (((match pg.cur with
    | some x => opt' (constD (.str m)) fun d => opt' (lookF x.fs x.ds f) fun d2 => .nx (ρ.set j (some (.tup [d, d2], .root)))
    | none => .stuck) : Fl).seq (evSs pg s2)) := p
  rw [hcur] at p
  cases el : lookF xx.fs xx.ds f with
  | none =>
    simp only [constD, opt', el] at p
    exact p.elim
  | some y =>
    simp only [constD, opt', el] at p
    rcases xo with ⟨h0, _⟩ | ⟨hne, dx, vs, hd', hx', hl, hp⟩
    · rw [h0] at el
      cases el
    · obtain ⟨v, hv, fl⟩ := look_zip hl hp el
      have xo2 : XOk R xx d := Or.inr ⟨hne, dx, vs, hd', hx', hl, hp⟩
      refine ⟨.ref a, (hk i hi0).trans e', rfl, rfl, dx, _, v, hd', s.raw _ _ hx', hv, by show 2 ≤ sizeLine; rw [sizeLine_eq]; decide, fun q hq => ?_⟩
      obtain ⟨Le, en, g⟩ := s
      have s2 : Sta X.K cl σ (upd H q (.tup [.str m, v])) R ρ ([.val (.ref q) (.tup [.str m, y]) .root] ++ M) :=
        Sta.ofFront (N := [.val (.ref q) (.tup [.str m, y]) .root]) en (Good.packTup (vs := [.str m, v]) (ds := [.str m, y]) (((g.flat fl).flat (.str m)).alloc (u := .tup [.str m, v]) hq) rfl)
      exact ⟨_, R, M, k, s2.put, hk.set hio, e', xo2, p⟩
/-! try -/
variable {x n : Str} {c : Nat} {body suite : List Stmt} {b₀ : Stmt} {np pos pos' : Pos}
theorem rs_tryAs2 (i : Nat) (B : Bd X W nn) (hs : X.stack = X.env :: X.outer) (hf : X.env.frame = some X.env.locals) (hN : X.N.Nodup) (hi : X.N[i]? = some n) (hln : X.env.kindOf n = some .local) (hc : Names X x (.ref (cl c))) (ok : ExmOk X.K cl pg.sub c) (hio : io.contains i = false)
    (hb : ∀ (W : WX) (pn : List (Addr × Obj)) (xe : Value → Shared → Prop), Takes (X.tr pn xe) W → PassesOwn (model X.prog X.w) X.A X.env xe → QSs (X.tr pn xe) cl W io pg body sb)
    (hsu : ∀ (a : Addr) (oe : Obj) (xx : Exn) (d : Option Addr) (pn : List (Addr × Obj)), pg.sub xx.c c = some true → Zc (.ref (cl xx.c)) d oe → (∃ vs, oe.data = .fields vs) → QX2 (X.suite a ((a, oe) :: pn)) cl (i :: io) i a xx d { pg with cur := some xx } (b₀ :: suite) sh) :
    QS X cl W io pg (.Try body [.ExceptHandler (some (.Name x np)) (some n) (b₀ :: suite) pos'] [] [] pos) (.tryc sb (.cons c (some i) sh .nil)) :=
  PS.of (ps_try_as (i := i) (tb := fun W => tS X.K cl W io (evSs pg sb)) (ts := fun a cls d D σ H => ∃ xx : Exn, cls = .ref (cl xx.c) ∧ pg.sub xx.c c = some true ∧ tS2 X.K cl W0 (i :: io) i a xx d (evSs { pg with cur := some xx } sh) D σ H) (Wout := W)
    hs hf hN hi hln hc B.tk hb (fun a oe cls d pn hz hf => ⟨fun pins s σ H D I ⟨xx, e1, e2, q⟩ => by
      subst e1
      exact (hsu a oe xx d pn e2 hz hf).run pins s σ H D I q⟩)) fun D σ H ⟨ρ, R, M, k, s, hk, p⟩ => by
    refine ⟨ρ, R, M, k, s, hk, ?_⟩
    have p : PostS X.K cl R M W io k D (match evSs pg sb ρ with
      | .exc x ρ1 => evHs pg (.cons c (some i) sh .nil) x ρ1
      | r => r) := p
    cases er : evSs pg sb ρ with
    | nx ρ1 => rw [er] at p; exact p
    | br ρ1 => rw [er] at p; exact p
    | ct ρ1 => rw [er] at p; exact p
    | rt d o ρ1 => rw [er] at p; exact p
    | stuck => rw [er] at p; exact p.elim
    | exc xx ρ1 =>
      rw [er] at p
      have p : PostS X.K cl R M W io k D (match pg.sub xx.c c with
        | some true => if i < ρ1.length then endX (some i) (evSs { pg with cur := some xx } sh (ρ1.set i none)) else .stuck
        | some false => .exc xx ρ1
        | none => .stuck) := p
      intro σ1 H1 dx s1 hk1 xo
      cases eb : pg.sub xx.c c with
      | none => rw [eb] at p; exact p.elim
      | some b =>
        rw [eb] at p
        refine ⟨b, ok _ _ eb, fun hbt a na => ?_, fun hbf => ?_⟩
        · subst hbt
          have p : PostS X.K cl R M W io k D (if i < ρ1.length then endX (some i) (evSs { pg with cur := some xx } sh (ρ1.set i none)) else .stuck) := p
          split at p
          · rename_i hlt
            have hl : i < σ1.length := by
              obtain ⟨Le, a1, _⟩ := s1
              rw [a1.len]
              exact hlt
            obtain ⟨R', eR, xR, s2⟩ := s1.xd xo
            refine ⟨xx, rfl, eb, ρ1.set i none, R', M, fun j => if j = i then some (some (.ref a)) else k j, s2.gone i _, fun j hj => ?_, if_pos rfl, xR, (endX_some hio (fun j hj => ?_) p).mono eR⟩
            · by_cases hj2 : j = i
              · subst hj2
                show _ = (if j = j then _ else _)
                rw [if_pos rfl, List.getElem?_set_self hl]
              · show _ = (if j = i then _ else _)
                rw [if_neg hj2, List.getElem?_set_ne (Ne.symm hj2)]
                rcases List.mem_cons.mp hj with e | hj
                · exact absurd e hj2
                · exact hk1 j hj
            · have hj2 : j ≠ i := fun z => by
                subst z
                have : io.contains j = true := by simpa using hj
                rw [hio] at this
                cases this
              show (if j = i then _ else _) = _
              rw [if_neg hj2]
          · exact p.elim
        · subst hbf
          exact p σ1 H1 dx s1 hk1 xo
end
/-- a body of which nothing is told -/
theorem rss_no {X : Cx} {cl : Nat → Addr} {W : WX} {io : List Nat} {pg : Pg} {ss : List Stmt} : QSs X cl W io pg ss (.cons .no .nil) := ⟨fun pins s σ H D I ⟨ρ, R, M, k, s0, hk, p⟩ => p.elim⟩
end FB
namespace FB
open PySem L2 PyProof.Rows
section
variable {X : Cx} {cl : Nat → Addr} {W : WX} {pg : Pg} {a b : Expr} {ea eb : E}
theorem itz_ok {K : PySem.W.Frag} {P : Hp} {p q : Addr} {vs ws : List V} {ds es : List D} (hp : SqL K P p vs) (hq : SqL K P q ws) (r : Rss K cl P vs ds) (r2 : Rss K cl P ws es) : ItOk K cl P (Itz K p q) ((ds.zip es).map fun z => .tup [z.1, z.2]) := fun H ex => by
  refine ⟨⟨vs, ws, ex_l ex hp, ex_l ex hq, ?_⟩, fun i d hd => ?_⟩
  · rw [List.length_map, List.length_zip, r.length, r2.length]
    omega
  · rw [List.getElem?_map] at hd
    cases hz : (ds.zip es)[i]? with
    | none => rw [hz] at hd; cases hd
    | some z =>
      rw [hz] at hd
      cases hd
      obtain ⟨d1, d2⟩ := z
      obtain ⟨h1, h2⟩ := List.getElem?_zip_eq_some.mp hz
      obtain ⟨v, hv, q1⟩ := rss_get r h1
      obtain ⟨w, hw, q2⟩ := rss_get r2 h2
      refine ⟨⟨vs, ws, v, w, ex_l ex hp, ex_l ex hq, hv, hw⟩, fun x H' ⟨T, x1, x2, e1, hT, e2, y1, y2⟩ L g => ?_⟩
      have hx1 := y1 vs (ex_l ex hp)
      have hx2 := y2 ws (ex_l ex hq)
      rw [hv] at hx1
      rw [hw] at hx2
      cases hx1
      cases hx2
      subst e1 e2
      have g2 : Good K cl P H (shs [v, w] [d1, d2] ++ L) := g.rssP (.cons q1 (.cons q2 .nil))
      exact ((g2.alloc hT).packTup rfl).share
theorem itzT_ok {K : PySem.W.Frag} {P : Hp} {p q : Addr} {vs ws : List V} {ds es : List D} (hp : SqT K P p vs) (hq : SqT K P q ws) (r : Rss K cl P vs ds) (r2 : Rss K cl P ws es) : ItOk K cl P (RZ.ItzT K p q) ((ds.zip es).map fun z => .tup [z.1, z.2]) := fun H ex => by
  refine ⟨⟨vs, ws, ex_t ex hp, ex_t ex hq, ?_⟩, fun i d hd => ?_⟩
  · rw [List.length_map, List.length_zip, r.length, r2.length]
    omega
  · rw [List.getElem?_map] at hd
    cases hz : (ds.zip es)[i]? with
    | none => rw [hz] at hd; cases hd
    | some z =>
      rw [hz] at hd
      cases hd
      obtain ⟨d1, d2⟩ := z
      obtain ⟨h1, h2⟩ := List.getElem?_zip_eq_some.mp hz
      obtain ⟨v, hv, q1⟩ := rss_get r h1
      obtain ⟨w, hw, q2⟩ := rss_get r2 h2
      refine ⟨⟨vs, ws, v, w, ex_t ex hp, ex_t ex hq, hv, hw⟩, fun x H' ⟨T, x1, x2, e1, hT, e2, y1, y2⟩ L g => ?_⟩
      have hx1 := y1 vs (ex_t ex hp)
      have hx2 := y2 ws (ex_t ex hq)
      rw [hv] at hx1
      rw [hw] at hx2
      cases hx1
      cases hx2
      subst e1 e2
      have g2 : Good K cl P H (shs [v, w] [d1, d2] ++ L) := g.rssP (.cons q1 (.cons q2 .nil))
      exact ((g2.alloc hT).packTup rfl).share
theorem ri_zip {p pos tpos : Pos} {elts : List Expr} {kk : Nat} (hm : X.mg "zip" = none) (ha : QE X cl W pg a ea) (hb : QE X cl W pg b eb) (hg : Gl X "zip" := by rfl)
    (hst : starEach [a, b] X.env = (false, eval a X.env) :: starEach [b] X.env := by rfl) (hst2 : starEach [b] X.env = (false, eval b X.env) :: starEach [] X.env := by rfl) (hpl : (backTo pos (starEach [b] X.env)).any (·.1) = false := by rfl) :
    QI X cl W pg (.Tuple elts kk tpos) (.Call (.Name "zip" p) [a, b] [] pos) (.zip ea eb) :=
  PI.of (RZ.pi_zipA hg hm (pa_cons ha (pa_cons hb pa_nil hst2) hst) hst hpl) fun σ H Rk ⟨ρ, R, M, s, p⟩ => ⟨ρ, R, M, s, (PostI.bindF [] p).mono fun v H1 ⟨x, N, ρ1, hr, s1, p1⟩ => ⟨ρ1, R, N ++ M, s1, (PostI.bindF N p1).mono fun w H2 ⟨y, N2, ρ2, hr2, s2, p2⟩ => by
    subst hr
    subst hr2
    obtain ⟨d, o⟩ := x
    obtain ⟨d2, o2⟩ := y
    have s3 : Sta X.K cl σ H2 R ρ2 ([.val w d2 .sh] ++ ([.val v d o] ++ M)) := Sta.item (N := [.val w d2 o2]) (N' := [.val w d2 .sh]) s2 fun L g => g.share
    obtain ⟨P1, ex1, h1, s4⟩ := s3.grow
    have s5 : Sta X.K cl σ H2 P1 ρ2 ([.val v d o] ++ ([.val w d2 .sh] ++ M)) := s4.perm (List.Perm.swap _ _ _)
    have s6 : Sta X.K cl σ H2 P1 ρ2 ([.val v d .sh] ++ ([.val w d2 .sh] ++ M)) := Sta.item (N := [.val v d o]) (N' := [.val v d .sh]) s5 fun L g => g.share
    obtain ⟨P2, ex2, h2, s7⟩ := s6.grow
    have exH : Ex P2 H2 := s7.raw
    have h1 := h1.mono ex2
    dsimp only at p2
    cases h2 with
    | @lst p vs ds e r =>
      cases h1 with
      | @lst q ws es e2 r2 => exact ⟨p, q, vs, ws, rfl, .inl ⟨SqL.of (exH _ _ e), SqL.of (exH _ _ e2), p2 _ H2 P2 (ex1.trans ex2) (itz_ok (SqL.of e) (SqL.of e2) r r2) s7.dropL.dropL⟩⟩
      | _ => exact p2.elim
    | @tup p vs ds e r =>
      cases h1 with
      | @tup q ws es e2 r2 => exact ⟨p, q, vs, ws, rfl, .inr ⟨ex_t exH e, ex_t exH e2, p2 _ H2 P2 (ex1.trans ex2) (itzT_ok e e2 r r2) s7.dropL.dropL⟩⟩
      | _ => exact p2.elim
    | _ => cases d2 <;> exact p2.elim⟩⟩
theorem re_call0 {D : List (List Const)} {x : Str} {p' pos : Pos} {n np : Nat} {jo : List Nat} {f : Addr} (k : Nat) (B : Bd X W n) (J : FnJ X.prog X.w X.K X.mg X.base cl n f np jo (pg.fn k) D) (hm : X.mg x = some (.ref f)) (hk : PySem.W.keepIn X.K (.ref f) = true)
    (hb : bkOk [] jo [] = true := by rfl) (hg : Gl X x := by rfl) (hdb : (x == ("__debug__" : Str)) = false := by rfl) : QE X cl W pg (.Call (.Name x p') [] [] pos) (.call k .nil [] []) := se_call0 J.toI B.hr B.tk hg hm hk hdb hb
end
end FB
namespace FB
open PySem L2 PyProof.Rows
/-! ### list.count, list.index of flat things -/
section
variable {X : Cx} {cl : Nat → Addr} {W : WX} {n : Nat} {pg : Pg} {o e : Expr} {eo ea : E} {pos apos : Pos}
def rCountF (K : PySem.W.Frag) : V → List V → Hp → VK → Prop := fun x xs H Q => ∃ (a : Addr) (ys : List V) (y : V), x = V.ref a ∧ xs = [y] ∧ SqL K H a ys ∧ flatV y = true ∧ ys.all flatV = true ∧ Q (.int (ys.countP fun z => eqV z y : Nat)) H
theorem countP_U {y : V} : ∀ {vs : List V} {us : List Value}, Vals vs us → vs.all flatV = true → us.countP (eqU y) = vs.countP fun z => eqV z y
  | _, _, .nil, _ => rfl
  | v :: vs, u :: us, .cons r t, f => by
    rw [List.all_cons, Bool.and_eq_true] at f
    rw [List.countP_cons, List.countP_cons, countP_U t f.2, eqU_of r f.1]
theorem mt_countF : MtR X "list.count" (rCountF X.K) := by
  intro pins s σ H x xs v us Q I rx rxs h
  obtain ⟨p, ys, y, rfl, rfl, hs, fy, fys, q⟩ := h
  cases rx
  cases rxs with
  | cons ry rt =>
    rename_i uy ut
    cases rt
    obtain ⟨its, rv, ⟨⟨cls, dd, data, sl⟩, n, ho, hc, hdn, hd⟩, hlen⟩ := I.list hs
    simp only at hc hd
    subst hc hd
    refine call_meets PySem.F.slot_list_count ⟨_, ho, rfl⟩ PySem.F.entry_list_count (PySem.F.args_list_count_2 _ _)
      (SeqAt.list_countAt p its.toArray n dd sl uy (eqU y)) ⟨ho, fun u' hu' => mem_eqAt ry fy rv fys u' (by simpa using hu'), ?_⟩
    have ec : its.toArray.toList.countP (eqU y) = ys.countP fun z => eqV z y := countP_U rv fys
    refine ⟨.int (ys.countP fun z => eqV z y : Nat), H, I.tok _, ⟨s.toks, ?_⟩, q⟩
    show Value.int ((its.toArray.toList.countP (eqU y) : Nat) : Int) s.toks = Value.int ((ys.countP fun z => eqV z y : Nat) : Int) s.toks
    rw [ec]
theorem flat_rs {K : PySem.W.Frag} {P : Hp} {v : V} {d : D} (h : Rs K cl P v d) (f : d.flat = true) : flatV v = true := by
  cases h <;> first | rfl | cases f
theorem flats_rs {K : PySem.W.Frag} {P : Hp} : ∀ {vs : List V} {ds : List D}, Rss K cl P vs ds → ds.all D.flat = true → vs.all flatV = true
  | _, _, .nil, _ => rfl
  | _, _, .cons h t, f => by
    rw [List.all_cons, Bool.and_eq_true] at f
    rw [List.all_cons, flat_rs h f.1, flats_rs t f.2]
    rfl
theorem eq_rs {K : PySem.W.Frag} {P : Hp} {v w : V} {d e : D} (h : Rs K cl P v d) (h2 : Rs K cl P w e) (f : d.flat = true) (f2 : e.flat = true) : eqV v w = eqF d e := by
  cases h <;> first | (cases f; done) | (cases h2 <;> first | (cases f2; done) | rfl)
theorem count_rs {K : PySem.W.Frag} {P : Hp} {w : V} {e : D} (h2 : Rs K cl P w e) (f2 : e.flat = true) : ∀ {vs : List V} {ds : List D}, Rss K cl P vs ds → ds.all D.flat = true → vs.countP (fun z => eqV z w) = ds.countP fun z => eqF z e
  | _, _, .nil, _ => rfl
  | _, _, .cons h t, f => by
    rw [List.all_cons, Bool.and_eq_true] at f
    rw [List.countP_cons, List.countP_cons, count_rs h2 f2 t f.2, eq_rs h h2 f.1 f2]
theorem index_rs {K : PySem.W.Frag} {P : Hp} {w : V} {e : D} (h2 : Rs K cl P w e) (f2 : e.flat = true) {vs : List V} {ds : List D} (r : Rss K cl P vs ds) (f : ds.all D.flat = true) {j : Nat} (hj : ds.findIdx? (fun z => eqF z e) = some j) :
    ∃ z, vs[j]? = some z ∧ eqV z w = true ∧ ∀ (m : Nat) (z' : V), m < j → vs[m]? = some z' → eqV z' w = false := by
  obtain ⟨hl, h1, h3⟩ := List.findIdx?_eq_some_iff_getElem.mp hj
  obtain ⟨v, hv, q⟩ := r.get (List.getElem?_eq_getElem hl)
  have fl : ∀ {i : Nat} (hi : i < ds.length), (ds[i]).flat = true := fun {i} hi => List.all_eq_true.mp f _ (List.getElem_mem hi)
  refine ⟨v, hv, by rw [eq_rs q h2 (fl hl) f2]; exact h1, fun m z' hm hz => ?_⟩
  have hml : m < ds.length := by omega
  obtain ⟨v2, hv2, q2⟩ := r.get (List.getElem?_eq_getElem hml)
  rw [hz] at hv2
  cases hv2
  rw [eq_rs q2 h2 (fl hml) f2]
  have := h3 m hm
  simpa using this
/-- what a method is told by: the list, the thing -/
def BmR (K : PySem.W.Frag) (cl : Nat → Addr) (m : Bm) (r : V → List V → Hp → VK → Prop) : Prop := ∀ {P H : Hp} {v w : V} {ds : List D} {e : D} {z : DO} {Q : VK}, Ex P H → Rs K cl P v (.lst ds) → Rs K cl P w e → bmD m (.lst ds) [e] = some z → (∃ i : Int, z = (.int i, .sh) ∧ Q (.int i) H) → r v [w] H Q
theorem bm_count {K : PySem.W.Frag} : BmR K cl .count (rCountF K) := fun {P H v w ds e z Q} ex h h2 hz ⟨i, ez, q⟩ => by
  cases h with
  | @lst p vs _ e1 r =>
    simp only [bmD] at hz
    split at hz
    · rename_i hf
      rw [Bool.and_eq_true] at hf
      cases hz
      cases ez
      refine ⟨p, vs, w, rfl, rfl, SqL.of (ex _ _ e1), flat_rs h2 hf.1, flats_rs r hf.2, ?_⟩
      rw [count_rs h2 hf.1 r hf.2]
      exact q
    · cases hz
theorem bm_index {K : PySem.W.Frag} : BmR K cl .index (rIndex K) := fun {P H v w ds e z Q} ex h h2 hz ⟨i, ez, q⟩ => by
  cases h with
  | @lst p vs _ e1 r =>
    simp only [bmD] at hz
    split at hz
    · rename_i hf
      rw [Bool.and_eq_true] at hf
      cases hj : ds.findIdx? (fun z => eqF z e) with
      | none => rw [hj] at hz; cases hz
      | some j =>
        rw [hj] at hz
        cases hz
        cases ez
        obtain ⟨z, h3, h4, h5⟩ := index_rs h2 hf.1 r hf.2 hj
        exact ⟨p, vs, w, j, z, rfl, rfl, SqL.of (ex _ _ e1), flat_rs h2 hf.1, flats_rs r hf.2, h3, h4, h5, q⟩
    · cases hz
theorem bm_int {m : Bm} {ds : List D} {e : D} {z : DO} (hm : m = .count ∨ m = .index) (h : bmD m (.lst ds) [e] = some z) : ∃ i : Int, z = (.int i, .sh) := by
  rcases hm with rfl | rfl
  · simp only [bmD] at h
    split at h
    · cases h; exact ⟨_, rfl⟩
    · cases h
  · simp only [bmD] at h
    split at h
    · cases hj : ds.findIdx? (fun z => eqF z e) with
      | none => rw [hj] at h; cases h
      | some j => rw [hj] at h; cases h; exact ⟨_, rfl⟩
    · cases h
theorem Post.monoR {K : PySem.W.Frag} {α β : Type} {rep : β → α → List Item → Prop} {R R' : Hp} {M : List Item} {σ : L2.St} {Q : β → Hp → Prop} {x : Ev α} (e : Ex R R') (p : Post K cl rep R M W σ Q x) : Post K cl rep R' M W σ Q x := by
  cases x with
  | ok a ρ => exact fun b H' N hr s => p b H' N hr (s.mono e)
  | exc x ρ => exact fun H' dx s xo => p H' dx (s.mono e) xo
  | stuck => exact p
theorem re_bmL {name : Str} {id : String} {r : V → List V → Hp → VK → Prop} (m : Bm) (hm : m = .count ∨ m = .index) (slot : Slot "list" name id) (hty : typeOf (.builtin id) = pure (.type "method_descriptor")) (hr : MtR X id r) (br : BmR X.K cl m r) (ho : QE X cl W pg o eo) (ha : QE X cl W pg e ea)
    (hbase : attributeBase o name X.env (eval o X.env) = eval o X.env := by rfl)
    (hfew : ((backTo pos (starEach [e] X.env)).all (fun x => !x.1) && (backToKw pos (keywordEach [] X.env)).all (fun x => x.1.isSome)
      && decide ([e].length + ([] : List Keyword).length + (if ([] : List Keyword).isEmpty then 0 else 1) < 30)) = true := by rfl)
    (hline : (apos.endLine == pos.line) = true := by rfl) (hst : starEach [e] X.env = (false, eval e X.env) :: starEach [] X.env := by rfl) (hplain : (backTo pos (starEach [] X.env)).any (·.1) = false := by rfl) :
    QE X cl W pg (.Call (.Attribute o name apos) [e] [] pos) (.bm m eo (.cons ea .nil)) :=
  PE.of (pe_bm PySem.F.plainAttrs_list slot hty hr ho (pa_cons ha pa_nil hst) hbase hfew hline hst hplain) fun σ H Q ⟨ρ, R, M, s, p⟩ =>
    ⟨ρ, R, M, s, (Post.bindF (x := evE pg eo ρ) [] p).mono fun v H1 ⟨x, N, ρ1, hr1, s1, p1⟩ => by
      subst hr1
      obtain ⟨d, o1⟩ := x
      have p1 : Post X.K cl repV R M W σ Q (if bmTy m d then ((evE pg ea ρ1).bind fun y ρ2 => opt (bmD m d [y.1]) ρ2 fun z => .ok z ρ2) else .stuck) := by
        have e : evEs pg (.cons ea .nil) ρ1 = (evE pg ea ρ1).bind fun y ρ2 => .ok [y] ρ2 := rfl
        have p1 : Post X.K cl repV R M W σ Q (if bmTy m d then (evEs pg (.cons ea .nil) ρ1).bind fun xs ρ2 => opt (bmD m d (xs.map (·.1))) ρ2 fun z => .ok z ρ2 else .stuck) := p1
        rw [e] at p1
        cases ey : evE pg ea ρ1 <;> rw [ey] at p1 <;> exact p1
      have hd : ∃ ds, d = .lst ds := by
        by_cases ht : bmTy m d = true
        · rcases hm with rfl | rfl <;> cases d <;> first | exact ⟨_, rfl⟩ | cases ht
        · rw [if_neg ht] at p1
          exact p1.elim
      obtain ⟨ds, rfl⟩ := hd
      have ht : bmTy m (.lst ds) = true := by rcases hm with rfl | rfl <;> rfl
      rw [if_pos ht] at p1
      have s2 : Sta X.K cl σ H1 R ρ1 ([.val v (.lst ds) .sh] ++ M) := Sta.item (N := [.val v (.lst ds) o1]) (N' := [.val v (.lst ds) .sh]) s1 fun L g => g.share
      obtain ⟨P, ex, h1, s3⟩ := s2.grow
      have exH : Ex P H1 := s3.raw
      have hty : tyV X.K "list" v H1 := by
        cases h1 with
        | lst e1 r => exact .inl ⟨rfl, _, SqL.of (exH _ _ e1)⟩
      refine ⟨hty, ρ1, P, [.val v (.lst ds) .sh] ++ M, s3, ?_⟩
      have p2 := Post.bindF (rep := repV) (R := P) [.val v (.lst ds) .sh] (Post.monoR ex p1)
      exact p2.mono fun w H2 ⟨y, N2, ρ2, hr2, s4, p4⟩ => by
        subst hr2
        obtain ⟨z, hz, p5⟩ := p4.opt
        have s5 : Sta X.K cl σ H2 P ρ2 ([.val w y.1 .sh] ++ ([.val v (.lst ds) .sh] ++ M)) := Sta.item (N := [.val w y.1 y.2]) (N' := [.val w y.1 .sh]) s4 fun L g => g.share
        obtain ⟨P2, ex2, h2, s6⟩ := s5.grow
        obtain ⟨i, rfl⟩ := bm_int hm hz
        refine br s6.raw (h1.mono ex2) h2 hz ⟨i, rfl, p5 _ H2 _ rfl ?_⟩
        exact (Sta.item (N := []) (N' := [.val (.int i) (.int i) .sh]) (s6.dropL.dropL) fun L g => g.flat (.int i)).mono ex2⟩
end
end FB
namespace FB
open PySem L2 PyProof.Rows
/-! ### held objects: a field read, a method that changes its object, a class made of nothing -/
section
variable {K : PySem.W.Frag} {cl : Nat → Addr} {R H : Hp} {v : V} {L : List Item}
theorem setD_same {ds : List D} {n : Nat} {d : D} (h : ds[n]? = some d) : ds.set n d = ds := by
  obtain ⟨hl, e⟩ := List.getElem?_eq_some_iff.mp h
  rw [← e]
  exact List.set_getElem_self hl
theorem Good.rdNode {att : Nat → Str → Bool} {c n : Nat} {fs : List Str} {ds : List D} {os : List O} {f : Str} {d : D} (g : Good K cl R H (.val v (.obj c fs ds) (.node os) :: L)) (ha : att c f = true) (e1 : lookF fs ds f = some d) (e0 : fs.findIdx? (· == f) = some n) :
    ∃ w, PathV K cl att H [.fld f] v w ∧ Good K cl R H (.val w d .sh :: .val v (.obj c fs ds) (.node (os.set n .sh)) :: L) := by
  obtain ⟨a, dx, vs, rfl, h0, h1, h2, g⟩ := g.unpackObjN
  obtain ⟨v1, a1, a2, a3⟩ := zip_find h0 h1 e1 e0
  have hn : n < os.length := by
    rw [← h2]
    exact (List.getElem?_eq_some_iff.mp a2).1
  obtain ⟨v1', A, B, e3, e4, e5⟩ := vals_split (vs := vs) n h1 a2 (List.getElem?_eq_getElem hn)
  rw [a1] at e3
  cases e3
  have hc := g.cellAt
  rw [e4] at g
  have g1 : Good K cl R H (.val v1 d os[n] :: (.cell a (.ins (cl c) dx (fs.zip vs)) :: (A ++ B ++ L))) := g.perm ((List.Perm.cons _ perm_mid).trans (.swap _ _ _))
  have g2 := g1.share.dup
  refine ⟨v1, ⟨a, c, dx, _, v1, rfl, hc, ha, a3, rfl⟩, ?_⟩
  have ev := e5 d .sh
  rw [setD_same a2] at ev
  have g3 : Good K cl R H (.cell a (.ins (cl c) dx (fs.zip vs)) :: (vals vs ds (os.set n .sh) ++ (.val v1 d .sh :: L))) := by
    rw [ev]
    refine g2.perm ?_
    have q : ((A ++ .val v1 d .sh :: B) ++ (.val v1 d .sh :: L)).Perm (.val v1 d .sh :: .val v1 d .sh :: (A ++ B ++ L)) := by
      refine List.perm_middle.trans (List.Perm.cons _ ?_)
      exact perm_mid
    exact ((List.Perm.cons _ q).trans ((List.Perm.swap _ _ _).trans (List.Perm.cons _ (List.Perm.swap _ _ _)))).symm
  exact (Good.packObjN g3 h0 h1 (by rw [List.length_set, h2])).perm (List.Perm.swap _ _ _)
theorem shs_split : ∀ {vs : List V} {ds : List D} (n : Nat) {d : D}, vs.length = ds.length → ds[n]? = some d → ∃ v A B, vs[n]? = some v ∧ shs vs ds = A ++ .val v d .sh :: B
  | v :: vs, d :: ds, 0, _, _, h => by
    simp at h
    subst h
    exact ⟨v, [], shs vs ds, rfl, rfl⟩
  | v :: vs, d :: ds, n + 1, d', hl, h => by
    obtain ⟨w, A, B, e1, e2⟩ := shs_split (vs := vs) n (Nat.succ.inj hl) (by simpa using h)
    refine ⟨w, .val v d .sh :: A, B, by simpa using e1, ?_⟩
    show Item.val v d .sh :: shs vs ds = _
    rw [e2]
    rfl
  | [], [], _, _, _, h => by simp at h
  | [], _ :: _, _, _, hl, _ => by cases hl
  | _ :: _, [], _, _, hl, _ => by cases hl
theorem Good.rdRoot {att : Nat → Str → Bool} {c n : Nat} {fs : List Str} {ds : List D} {f : Str} {d : D} (g : Good K cl R H (.val v (.obj c fs ds) .root :: L)) (ha : att c f = true) (e1 : lookF fs ds f = some d) (e0 : fs.findIdx? (· == f) = some n) :
    ∃ w, PathV K cl att H [.fld f] v w ∧ Good K cl R H (.val w d .sh :: .val v (.obj c fs ds) .root :: L) := by
  obtain ⟨a, dx, vs, rfl, h0, h1, g⟩ := g.unpackObj
  obtain ⟨v1, a1, a2, a3⟩ := zip_find h0 h1 e1 e0
  obtain ⟨v1', A, B, e3, e4⟩ := shs_split (vs := vs) n h1 a2
  rw [a1] at e3
  cases e3
  have hc := g.cellAt
  rw [e4] at g
  have g1 : Good K cl R H (.val v1 d .sh :: (.cell a (.ins (cl c) dx (fs.zip vs)) :: (A ++ B ++ L))) := g.perm ((List.Perm.cons _ perm_mid).trans (.swap _ _ _))
  have g2 := g1.dup
  refine ⟨v1, ⟨a, c, dx, _, v1, rfl, hc, ha, a3, rfl⟩, ?_⟩
  have g3 : Good K cl R H (.cell a (.ins (cl c) dx (fs.zip vs)) :: (shs vs ds ++ (.val v1 d .sh :: L))) := by
    rw [e4]
    refine g2.perm ?_
    have q : ((A ++ .val v1 d .sh :: B) ++ (.val v1 d .sh :: L)).Perm (.val v1 d .sh :: .val v1 d .sh :: (A ++ B ++ L)) := by
      refine List.perm_middle.trans (List.Perm.cons _ ?_)
      exact perm_mid
    exact ((List.Perm.cons _ q).trans ((List.Perm.swap _ _ _).trans (List.Perm.cons _ (List.Perm.swap _ _ _)))).symm
  exact (Good.packObj g3 h1 h0).perm (List.Perm.swap _ _ _)
end
section
variable {X : Cx} {cl : Nat → Addr} {W : WX} {n : Nat} {pg : Pg} {e : Expr} {es : List Expr} {ees : Es} {pos apos p' : Pos} {x m : Str}
/-- v.f, v held -/
theorem re_rd {f : Str} (i : Nat) (ok : AttOk X.K cl pg.att) (hN : X.N[i]? = some x := by rfl) (hv : Vis X.env.scope x := by first | exact Or.inl rfl | exact Or.inr (Or.inl rfl) | exact Or.inr (Or.inr rfl)) (hd : (x == ("__debug__" : Str)) = false := by rfl) (hcd : (x == ("__classdict__" : Str)) = false := by rfl)
    (hb : attributeBase (.Name x p') f X.env (eval (.Name x p') X.env) = eval (.Name x p') X.env := by rfl) : QE X cl W pg (.Attribute (.Name x p') f pos) (.rd i f) :=
  PE.of (pp_fld ok (pp_name hN hv hd hcd) hb) fun σ H Q ⟨ρ, R, M, s, p⟩ => by
    have p : Post X.K cl repV R M W σ Q (rdF pg.att i f ρ) := p
    unfold rdF at p
    split at p
    · rename_i c fs ds os e
      split at p
      · rename_i ha
        split at p
        · rename_i d k e1 e0
          obtain ⟨v, hv1, s1⟩ := s.take e
          obtain ⟨Le, he, g⟩ := Sta.front (N := [.val v (.obj c fs ds) (.node os)]) s1
          obtain ⟨w, hp, g2⟩ := g.rdNode ha e1 e0
          have hi : i < ρ.length := (List.getElem?_eq_some_iff.mp e).1
          refine ⟨v, w, hv1, hp, p w H [.val w d .sh] rfl ?_⟩
          have s2 : Sta X.K cl σ H R (ρ.set i none) (.val v (.obj c fs ds) (.node (os.set k .sh)) :: ([.val w d .sh] ++ M)) := Sta.ofFront (N := [.val v (.obj c fs ds) (.node (os.set k .sh)), .val w d .sh]) he (g2.perm (List.Perm.swap _ _ _))
          have s3 := s2.give (by rw [List.getElem?_set_self hi]) hv1
          rw [set_set] at s3
          exact s3
        · exact p.elim
      · exact p.elim
    · rename_i c fs ds e
      split at p
      · rename_i ha
        split at p
        · rename_i d k e1 e0
          obtain ⟨v, hv1, s1⟩ := s.take e
          obtain ⟨Le, he, g⟩ := Sta.front (N := [.val v (.obj c fs ds) .root]) s1
          obtain ⟨w, hp, g2⟩ := g.rdRoot ha e1 e0
          have hi : i < ρ.length := (List.getElem?_eq_some_iff.mp e).1
          refine ⟨v, w, hv1, hp, p w H [.val w d .sh] rfl ?_⟩
          have s2 : Sta X.K cl σ H R (ρ.set i none) (.val v (.obj c fs ds) .root :: ([.val w d .sh] ++ M)) := Sta.ofFront (N := [.val v (.obj c fs ds) .root, .val w d .sh]) he (g2.perm (List.Perm.swap _ _ _))
          have s3 := s2.give (by rw [List.getElem?_set_self hi]) hv1
          rw [set_set] at s3
          have e' : ρ.set i (some (.obj c fs ds, .root)) = ρ := by
            obtain ⟨hl, ee⟩ := List.getElem?_eq_some_iff.mp e
            rw [← ee]
            exact List.set_getElem_self hl
          rw [e'] at s3
          exact s3
        · exact p.elim
      · exact p.elim
    · exact p.elim
/-- v.m(e, ..), v held and changed -/
theorem re_mthI {pl : Sem Bool} (i : Nat) (B : Bd X W n) (bk : List (Option Nat)) (J : MthJ X.prog X.w X.K X.mg X.base cl n pg.mth pg.fn pg.iof m) (ha : QA X cl W pg (e :: es) ees)
    (ht : eval (.Call (.Attribute (.Name x p') m apos) (e :: es) [] pos) X.env = (do
      let ov ← eval (.Name x p') X.env
      standAt apos.atName
      let (f, first) ← holding [ov] (getMethod ov m pl)
      callWith pos f first (backTo pos (starEach (e :: es) X.env)) (backToKw pos (keywordEach [] X.env))))
    (hN : X.N[i]? = some x := by rfl) (hv : Vis X.env.scope x := by first | exact Or.inl rfl | exact Or.inr (Or.inl rfl) | exact Or.inr (Or.inr rfl)) (hd : (x == ("__debug__" : Str)) = false := by rfl) (hcd : (x == ("__classdict__" : Str)) = false := by rfl)
    (hst : starEach (e :: es) X.env = (false, eval e X.env) :: starEach es X.env := by rfl) (hpl : (backTo pos (starEach es X.env)).any (·.1) = false := by rfl) :
    QE X cl W pg (.Call (.Attribute (.Name x p') m apos) (e :: es) [] pos) (.mthI i m ees [] bk) :=
  se_mthI J.toI B.hr B.tk hN hv hd hcd ha (fun e' es' h => by cases h; exact ⟨hst, hpl⟩) (fun h => by cases h) ht
theorem re_mthI0 {pl : Sem Bool} (i : Nat) (B : Bd X W n) (bk : List (Option Nat)) (J : MthJ X.prog X.w X.K X.mg X.base cl n pg.mth pg.fn pg.iof m)
    (ht : eval (.Call (.Attribute (.Name x p') m apos) [] [] pos) X.env = (do
      let ov ← eval (.Name x p') X.env
      standAt apos.atName
      let (f, first) ← holding [ov] (getMethod ov m pl)
      callWith pos f first (backTo pos (starEach [] X.env)) (backToKw pos (keywordEach [] X.env))))
    (hN : X.N[i]? = some x := by rfl) (hv : Vis X.env.scope x := by first | exact Or.inl rfl | exact Or.inr (Or.inl rfl) | exact Or.inr (Or.inr rfl)) (hd : (x == ("__debug__" : Str)) = false := by rfl) (hcd : (x == ("__classdict__" : Str)) = false := by rfl) :
    QE X cl W pg (.Call (.Attribute (.Name x p') m apos) [] [] pos) (.mthI i m .nil [] bk) :=
  se_mthI J.toI B.hr B.tk hN hv hd hcd ra_nil (fun e' es' h => by cases h) (fun h => ⟨rfl, rfl⟩) ht
/-- C() -/
theorem re_mk0 (c : Nat) (B : Bd X W n) {D : List (List Const)} (J : MkJ X.prog X.w X.K X.mg X.base cl n c (pg.mak c) D) (hm : X.mg x = some (.ref (cl c))) (hk : PySem.W.keepIn X.K (.ref (cl c)) = true) (hg : Gl X x := by rfl) (hdb : (x == ("__debug__" : Str)) = false := by rfl) :
    QE X cl W pg (.Call (.Name x p') [] [] pos) (.mk c .nil []) := se_mk0 J.toI B.hr B.tk hg hm hk hdb
end
end FB
namespace FB
open PySem L2 PyProof.Rows
/-! ### dicts: {} and d[n] = y -/
section
variable {X : Cx} {cl : Nat → Addr} {W : WX} {io : List Nat} {n : Nat} {pg : Pg} {o e a b : Expr} {ea eb : E} {pos pos2 : Pos}
theorem re_dic0 : QE X cl W pg (.Dict [] [] pos) (.dic [] .nil) :=
  PE.of pe_dnewK fun σ H Q ⟨ρ, R, M, s, p⟩ => fun q hq => by
    have p : Post X.K cl repV R M W σ Q (.ok (.dic [] [], .root) ρ) := p
    refine p (.ref q) _ [.val (.ref q) (.dic [] []) .root] rfl ?_
    obtain ⟨Le, he, g⟩ := s
    have g1 : Good X.K cl R (upd H q (.dK [])) (.cell q (.dK []) :: (Le ++ M)) := g.alloc hq
    exact Sta.ofFront (N := [.val (.ref q) (.dic [] []) .root]) he (Good.packDic (ks := []) (vs := []) (ds := []) g1 rfl rfl)
theorem putK_zip {k : Key} {v : V} : ∀ {ks : List Key} {vs : List V}, ks.Nodup → ks.length = vs.length → putK (ks.zip vs) k v = (dicPutK ks k).zip (putG ks vs k v)
  | [], [], _, _ => rfl
  | x :: ks, w :: vs, hn, hl => by
    obtain ⟨h1, h2⟩ := List.nodup_cons.mp hn
    have hl := Nat.succ.inj hl
    have ih := putK_zip (k := k) (v := v) h2 hl
    by_cases e : x = k
    · subst e
      have hm : (ks.zip vs).map (fun kv => if kv.1 = x then (kv.1, v) else kv) = ks.zip vs := by
        refine (List.map_congr_left fun kv hkv => ?_).trans (List.map_id _)
        have : kv.1 ∈ ks := (List.of_mem_zip hkv).1
        have hne : ¬ kv.1 = x := fun z => h1 (by rw [← z]; exact this)
        rw [if_neg hne]
        rfl
      unfold putK
      simp only [List.zip_cons_cons, List.any_cons, decide_true, Bool.true_or, if_true, List.map_cons, dicPutK, putG, hm]
    · unfold putK at ih ⊢
      simp only [List.zip_cons_cons, List.any_cons, e, decide_false, Bool.false_or, List.map_cons, if_false, dicPutK, putG]
      rw [← ih]
      split <;> simp
  | [], _ :: _, _, h => by cases h
  | _ :: _, [], _, h => by cases h
theorem put_len {α : Type} {k : Key} {y : α} : ∀ {ks : List Key} {vs : List α}, ks.length = vs.length → (dicPutK ks k).length = (putG ks vs k y).length
  | [], [], _ => rfl
  | x :: ks, w :: vs, hl => by
    have ih := put_len (k := k) (y := y) (Nat.succ.inj hl)
    by_cases e : x = k
    · simp only [dicPutK, putG, e, if_true, List.length_cons]
      exact congrArg (· + 1) (Nat.succ.inj hl)
    · simp only [dicPutK, putG, e, if_false, List.length_cons, ih]
  | [], _ :: _, h => by cases h
  | _ :: _, [], h => by cases h
theorem put_shs {k : Key} {y : V} {d : D} : ∀ {ks : List Key} {vs : List V} {ds : List D}, ks.length = vs.length → vs.length = ds.length →
    (∃ v0 d0 A B, shs vs ds = A ++ .val v0 d0 .sh :: B ∧ shs (putG ks vs k y) (putG ks ds k d) = A ++ .val y d .sh :: B) ∨ shs (putG ks vs k y) (putG ks ds k d) = shs vs ds ++ [.val y d .sh]
  | [], [], [], _, _ => .inr rfl
  | x :: ks, w :: vs, z :: ds, h1, h2 => by
    by_cases e : x = k
    · refine .inl ⟨w, z, [], shs vs ds, rfl, ?_⟩
      simp only [putG, e, if_true]
      rfl
    · simp only [putG, e, if_false]
      rcases put_shs (k := k) (y := y) (d := d) (Nat.succ.inj h1) (Nat.succ.inj h2) with ⟨v0, d0, A, B, e1, e2⟩ | e1
      · refine .inl ⟨v0, d0, .val w z .sh :: A, B, ?_, ?_⟩
        · show Item.val w z .sh :: shs vs ds = _
          rw [e1]
          rfl
        · show Item.val w z .sh :: shs (putG ks vs k y) (putG ks ds k d) = _
          rw [e2]
          rfl
      · refine .inr ?_
        show Item.val w z .sh :: shs (putG ks vs k y) (putG ks ds k d) = Item.val w z .sh :: shs vs ds ++ _
        rw [e1]
        rfl
  | [], _ :: _, _, h, _ => by cases h
  | _ :: _, [], _, h, _ => by cases h
  | [], [], _ :: _, _, h => by cases h
  | _ :: _, _ :: _, [], _, h => by cases h
theorem str_of {K : PySem.W.Frag} {R H : Hp} {v : V} {o : O} {c : Str} {L : List Item} (g : Good K cl R H (.val v (.str c) o :: L)) : v = .str c := by
  obtain ⟨P, ex, h⟩ := g.share.fact1
  cases h
  rfl
theorem key_of {K : PySem.W.Frag} {R H : Hp} {v : V} {d : D} {o : O} {M : List Item} {k : Key} (g : Good K cl R H (.val v d o :: M)) (h : keyD d = some k) : v = kV k := by
  cases d with
  | int i => cases h; exact int_of g
  | str s => cases h; exact str_of g
  | _ => cases h
theorem setd_read {att : Nat → Str → Bool} {i : Nat} {p : List PStep} {fy fn : FEnv → Ev DO} {σ : L2.St} {H : Hp} {D' : Ends} (h : ttS X cl W io (setdF att i p fn fy) D' σ H) : tAsg (tE X.K cl W fy) (gSub (tP X.K cl att i p) (tE X.K cl W0 fn) rSetD) D' σ H := by
  obtain ⟨ρ, R, M, k, s, hk, q⟩ := h
  refine ⟨ρ, R, M, s, (q.bindF hk).mono fun y H1 ⟨yd, N, ρ1, hr, s1, q1⟩ => ?_⟩
  subst hr
  split at q1
  · rename_i x e
    split at q1
    · rename_i ks ds eg
      cases en : fn (sharedEnv ρ1) with
      | exc _ _ => rw [en] at q1; exact q1.elim
      | stuck => rw [en] at q1; exact q1.elim
      | ok nd ρ2 =>
        rw [en] at q1
        dsimp only at q1
        cases ek : keyD nd.1 with
        | none => rw [ek] at q1; exact q1.elim
        | some kk0 =>
          rw [ek] at q1
          dsimp only at q1
          split at q1
          · rename_i hnd
            cases ex' : setAt p x (.dic (dicPutK ks kk0) (putG ks ds kk0 yd.1), .root) with
            | none => rw [ex'] at q1; exact q1.elim
            | some x' =>
              rw [ex'] at q1
              obtain ⟨v, hv, s2⟩ := s1.take (d := x.1) (o := x.2) e
              obtain ⟨Le, he, g⟩ := Sta.front (N := [.val v x.1 x.2]) s2
              obtain ⟨w, C, h1, g2, kk⟩ := Good.focus p g eg
              refine ⟨v, w, hv, h1, ?_⟩
              obtain ⟨Le0, he0, g0⟩ := id s1
              have gs : Good X.K cl H1 H1 (Le0.map shI) := (Good.tailA (g0.perm List.perm_append_comm)).shareAll he0.nocell
              refine ⟨sharedEnv ρ1, H1, [], ⟨_, he0.shared, by rw [List.append_nil]; exact gs⟩, ?_⟩
              rw [en]
              rintro b H2 N2 rfl s3
              obtain ⟨Le3, he3, g3⟩ := Sta.front (N := [.val b nd.1 nd.2]) s3
              have eH : Ex H1 H2 := g3.raw
              have eb : b = kV kk0 := key_of g3 ek
              obtain ⟨a, vs, rfl, hl, hkl, g4⟩ := (g2.heap eH).unpackDic
              have hlen : (ks.zip vs).length < sizeLine := by
                rw [List.length_zip, sizeLine_eq]
                omega
              refine ⟨a, _, rfl, .inl ⟨ks.zip vs, kk0, g4.cellAt, eb, hlen, rfl⟩, ?_⟩
              rw [putK_zip hnd.1 hkl]
              have g5 : Good X.K cl R H2 (.cell a (.dK (ks.zip vs)) :: (shs vs ds ++ (.val y yd.1 .sh :: (C ++ (Le ++ M))))) := by
                have g6 : Good X.K cl R H2 (.val y yd.1 yd.2 :: (.cell a (.dK (ks.zip vs)) :: (shs vs ds ++ (C ++ (Le ++ M))))) := by
                  refine g4.perm ?_
                  have p1 : (C ++ (Le ++ ([Item.val y yd.1 yd.2] ++ M))).Perm (.val y yd.1 yd.2 :: (C ++ (Le ++ M))) := by
                    rw [← List.append_assoc]
                    refine (List.perm_middle (a := Item.val y yd.1 yd.2) (l₁ := C ++ Le) (l₂ := M)).trans (List.Perm.cons _ ?_)
                    rw [List.append_assoc]
                  have p2 := (p1.append_left (shs vs ds)).trans (List.perm_middle (a := Item.val y yd.1 yd.2) (l₁ := shs vs ds) (l₂ := C ++ (Le ++ M)))
                  exact (List.Perm.cons _ p2).trans (.swap _ _ _)
                refine (g6.share).perm ?_
                exact (List.Perm.swap _ _ _).trans (List.Perm.cons _ List.perm_middle.symm)
              have g7 : Good X.K cl R (upd H2 a (.dK ((dicPutK ks kk0).zip (putG ks vs kk0 y)))) (.cell a (.dK ((dicPutK ks kk0).zip (putG ks vs kk0 y))) :: (shs (putG ks vs kk0 y) (putG ks ds kk0 yd.1) ++ (C ++ (Le ++ M)))) := by
                rcases put_shs (k := kk0) (y := y) (d := yd.1) hkl hl with ⟨v0, d0, A, B, e4, e5⟩ | e5
                · rw [e5, List.append_assoc]
                  rw [e4] at g5
                  have g8 : Good X.K cl R H2 (.cell a (.dK (ks.zip vs)) :: (A ++ (.val y yd.1 .sh :: (B ++ (C ++ (Le ++ M)))))) := by
                    have g9 : Good X.K cl R H2 (.val v0 d0 .sh :: (.cell a (.dK (ks.zip vs)) :: (A ++ (.val y yd.1 .sh :: (B ++ (C ++ (Le ++ M))))))) := by
                      refine g5.perm ?_
                      refine (List.Perm.cons _ ?_).trans (.swap _ _ _)
                      rw [List.append_assoc]
                      refine List.perm_middle.trans (List.Perm.cons _ ?_)
                      exact List.Perm.append_left A List.perm_middle
                    exact g9.tail
                  exact g8.write
                · rw [e5, List.append_assoc]
                  exact g5.write
              have g10 := kk ex' (g7.packDic (by rw [← put_len (y := y) hkl, put_len (y := yd.1) (hkl.trans hl)]) (put_len hkl))
              have s5 : Sta X.K cl σ (upd H2 a (.dK ((dicPutK ks kk0).zip (putG ks vs kk0 y)))) R (ρ1.set i none) (.val v x'.1 x'.2 :: M) := Sta.ofFront (N := [.val v x'.1 x'.2]) he g10
              have hi : i < ρ1.length := (List.getElem?_eq_some_iff.mp e).1
              have s6 := s5.give (by rw [List.getElem?_set_self hi]) hv
              rw [set_set] at s6
              exact q1 σ _ s6 hk
          · exact q1.elim
    · exact q1.elim
  · exact q1.elim
theorem rs_setd {i : Nat} {p : List PStep} (B : Bd X W n) (ho : PE X o (tP X.K cl pg.att i p)) (hn : QE X cl W0 pg b eb) (hy : QE X cl W pg e ea)
    (ha : ∀ v, assign (.Subscript o b pos2) X.env v = (do
      let ov ← holding [v] (eval o X.env)
      let iv ← holding [v, ov] (eval b X.env)
      standAt pos2
      holding [v, ov, iv] (setItem ov iv v)
      release [v, ov, iv] []) := by intro _; rfl)
    (hs : swapsWithSole [.Subscript o b pos2] e pos.line X.env = pure false := by rfl) (hw : swappedStores [.Subscript o b pos2] e X.env = pure none := by rfl) (h1 : (assignEach [.Subscript o b pos2] X.env).map (·.2) = [assign (.Subscript o b pos2) X.env] := by rfl) :
    QS X cl W io pg (.Assign [.Subscript o b pos2] e pos) (.setd i p eb ea) :=
  PS.of (ps_asg hy (pg_sub ho hn (set_dict (by have := B.hu; omega)) ha) hs hw h1) fun D' σ H h => setd_read h
end
end FB
namespace FB
open PySem L2 PyProof.Rows
/-! ### a module's tuples and tables -/
mutual
theorem gB_ok {K : PySem.W.Frag} {cl : Nat → Addr} : ∀ (d : D) (u : Value), gB K u d = true → ∃ v, RelV v u ∧ ∀ P, Rs K cl P v d
  | .non, u, h => by
    cases u with
    | none => exact ⟨.non, rfl, fun _ => .non⟩
    | _ => simp [gB] at h
  | .bl b, u, h => by
    cases u with
    | bool a =>
      simp [gB] at h
      subst h
      exact ⟨.bl a, rfl, fun _ => .bl a⟩
    | _ => simp [gB] at h
  | .int i, u, h => by
    cases u with
    | int j t =>
      simp [gB] at h
      subst h
      exact ⟨.int j, ⟨t, rfl⟩, fun _ => .int j⟩
    | _ => simp [gB] at h
  | .str x, u, h => by
    cases u with
    | str y t =>
      simp [gB] at h
      subst h
      exact ⟨.str y, ⟨t, rfl⟩, fun _ => .str y⟩
    | _ => simp [gB] at h
  | .tup ds, u, h => by
    cases u with
    | ref a =>
      cases q : K.lookup a with
      | none => simp [gB, q] at h
      | some o =>
        obtain ⟨oc, od, dt, osl⟩ := o
        cases oc with
        | type c =>
          cases dt with
          | seq its n =>
            simp [gB, q] at h
            obtain ⟨h1, h2, h3⟩ := h
            subst h1
            obtain ⟨vs, r1, r2⟩ := gBs_ok (cl := cl) ds its.toList h3
            exact ⟨.ref a, rfl, fun P => .tup (.inr ⟨_, its, n, q, rfl, rfl, h2, r1⟩) (r2 P)⟩
          | _ => simp [gB, q] at h
        | _ => simp [gB, q] at h
    | _ => simp [gB] at h
  | .lst ds, u, h => by cases u <;> simp [gB] at h
  | .frz ds, u, h => by cases u <;> simp [gB] at h
  | .dic ks ds, u, h => by cases u <;> simp [gB] at h
  | .obj c fs ds, u, h => by cases u <;> simp [gB] at h
theorem gBs_ok {K : PySem.W.Frag} {cl : Nat → Addr} : ∀ (ds : List D) (us : List Value), gBs K us ds = true → ∃ vs, Vals vs us ∧ ∀ P, Rss K cl P vs ds
  | [], [], _ => ⟨[], .nil, fun _ => .nil⟩
  | [], _ :: _, h => by simp [gBs] at h
  | _ :: _, [], h => by simp [gBs] at h
  | d :: ds, u :: us, h => by
    simp [gBs] at h
    obtain ⟨v, r1, r2⟩ := gB_ok (cl := cl) d u h.1
    obtain ⟨vs, r3, r4⟩ := gBs_ok (cl := cl) ds us h.2
    exact ⟨v :: vs, .cons r1 r3, fun P => .cons (r2 P) (r4 P)⟩
end
/-- a module's constant -/
def GCon (K : PySem.W.Frag) (cl : Nat → Addr) (mg : Str → Option Value) (x : Str) (d : D) : Prop := ∃ u, mg x = some u ∧ GlOk K cl u d
theorem gAt_ok {K : PySem.W.Frag} {cl : Nat → Addr} {h : Heap} {mg : Str → Option Value} {x : Str} {d : D} (X : K.In h) (G : h.Ns mainGlobals mg) (e : gAt K x d = true) : GCon K cl mg x d := by
  unfold gAt at e
  split at e
  · rename_i u hu
    obtain ⟨v, h1, h2⟩ := gB_ok (cl := cl) d u e
    exact ⟨u, PySem.W.mg_of X G hu, v, h1, h2⟩
  · cases e
theorem re_gc {X : Cx} {cl : Nat → Addr} {W : WX} {pg : Pg} {x : Str} {pos : Pos} {d : D} (k : Nat) (h : GCon X.K cl X.mg x d) (hv : pg.gl k = d := by rfl) (hg : Gl X x := by rfl) (hd : (x == ("__debug__" : Str)) = false := by rfl) : QE X cl W pg (.Name x pos) (.g k) := by
  obtain ⟨u, h1, h2⟩ := h
  refine re_g k h1 ?_ hg hd
  rw [hv]
  exact h2
/-! tables: text keys, ints -/
theorem tabOk_find : ∀ {es : List DictEntry} {T : List (Str × Int)}, tabOk es T = true → ∀ z : Str, match T.lookup z with
    | some i => ∃ t, (es.find? fun e => Value.isStrOf z e.key).map (·.val) = some (.int i t)
    | none => (es.find? fun e => Value.isStrOf z e.key) = none
  | [], [], _, z => rfl
  | [], _ :: _, h, _ => by simp [tabOk] at h
  | _ :: _, [], h, _ => by simp [tabOk] at h
  | e :: es, (x, i) :: T, h, z => by
    obtain ⟨eh, ek, ev⟩ := e
    cases ek with
    | str y t =>
      cases ev with
      | int j t2 =>
        simp [tabOk] at h
        obtain ⟨⟨rfl, rfl⟩, h2⟩ := h
        have ih := tabOk_find h2 z
        by_cases q : z = y
        · subst q
          simp [List.lookup_cons, List.find?_cons, Value.isStrOf]
        · have q2 : (z == y) = false := by simpa using q
          have q3 : (y == z) = false := by simpa using fun w => q w.symm
          simp only [List.lookup_cons, q2, List.find?_cons, Value.isStrOf, q3]
          exact ih
      | _ => simp [tabOk] at h
    | _ => cases ev <;> simp [tabOk] at h
/-- a module's table -/
def GTab (K : PySem.W.Frag) (w : World) (mg : Str → Option Value) (x : Str) (T : List (Str × Int)) : Prop := ∃ d es n, mg x = some (.ref d) ∧ KDict K w d es n ∧ tabOk es.toList T = true
theorem gTab_ok {K : PySem.W.Frag} {w : World} {h : Heap} {mg : Str → Option Value} {x : Str} {T : List (Str × Int)} (X : K.In h) (G : h.Ns mainGlobals mg) (h1 : PySem.W.nsIn K mainGlobals x = some (some (.ref (He.ga K x)))) (h2 : He.dicW K (He.ga K x) = some (He.keysIn w.params (T.map (·.1)))) (h3 : tabB K (He.ga K x) T = true) : GTab K w mg x T := by
  obtain ⟨es, n, D⟩ := He.dicW_ok h2
  refine ⟨_, es, n, PySem.W.mg_of X G h1, D, ?_⟩
  unfold tabB at h3
  rw [D.at_] at h3
  exact h3
section
variable {X : Cx} {cl : Nat → Addr} {W : WX} {pg : Pg} {x : Str} {e : Expr} {ea : E} {p apos cpos p2 : Pos}
theorem pe_kget {T : List (Str × Int)} {ty : TE} {c : Int} {f : Expr} (G : GTab X.K X.w X.mg x T) (hg : Gl X x) (hd : (x == ("__debug__" : Str)) = false) (he : PE X e ty) (hf : PE X f (tC (.int c))) (m : M2 X (.Name x p) "get" apos e f cpos) :
    PE X (.Call (.Attribute (.Name x p) "get" apos) [e, f] [] cpos) (fun σ H Q => ty σ H fun y H2 => ∃ t, y = .str t ∧ Q (.int ((T.lookup t).getD c)) H2) := by
  obtain ⟨d, es, n, hm, D, ht⟩ := G
  refine ⟨fun pins s σ H Q I h => ?_⟩
  refine wpAny_Call_method m.base m.few m.line PySem.F.plainAttrs_dict PySem.F.slot_dict_get PySem.F.type_dict_get (ld_glob I hg hm ?_ hd)
  refine ⟨kd_type D I, fun b q => ?_, ?_⟩
  · cases q
    exact ⟨_, I.kIn _ _ D.at_, rfl⟩
  · rw [m.trees]
    refine Calls.callWith_builtin rfl (Calls.evalArgs_plain (Calls.spliced_cons (thn (he.run pins s σ H _ I h) fun iv s2 ⟨y, H2, I2, ry, t, ey, q2⟩ =>
      Calls.spliced_cons (thn (hf.run pins s2 σ H2 (fun z H3 => z = .int c ∧ H3 = H2) I2 ⟨rfl, rfl⟩) fun fv s3 ⟨z, H3, I3, rz, ez, eH⟩ => Calls.spliced_nil ?_))))
    subst ey ez eH
    obtain ⟨tk, rfl⟩ := ry
    have mo := PySem.W.mapOf_K (prog := X.prog) I3.kIn D.at_ D.lit
    refine call_meetsIn PySem.F.slot_dict_get mo.typeIs PySem.F.entry_dict_get (PySem.F.args_dict_get_3 _ _ _) (meets_dict_get_default (strKind X.prog X.w) d (strKind_is X.prog X.w t tk) D.low fv) ⟨_, mo, ?_⟩
    have hfind := tabOk_find ht t
    have ef : findBy Value.isStrOf es t = (es.toList.find? fun e => Value.isStrOf t e.key).map (·.val) := by
      obtain ⟨l⟩ := es
      unfold findBy
      rw [List.find?_toArray]
    show EP X pins σ Q ((findBy Value.isStrOf es t).getD fv) _
    rw [ef]
    cases hl : T.lookup t with
    | some i =>
      rw [hl] at hfind q2
      obtain ⟨t2, hf2⟩ := hfind
      rw [hf2]
      exact ⟨.int i, _, I3.tok _, ⟨t2, rfl⟩, q2⟩
    | none =>
      rw [hl] at hfind q2
      have hfind : (es.toList.find? fun e => Value.isStrOf t e.key) = none := hfind
      rw [hfind]
      exact ⟨.int c, _, I3.tok _, rz, q2⟩
theorem re_kget {T : List (Str × Int)} {j : Nat} (k : Nat) (c : Int) (G : GTab X.K X.w X.mg x T) (he : QE X cl W pg e ea) (hv : pg.tb k = T := by rfl) (hg : Gl X x := by rfl) (hd : (x == ("__debug__" : Str)) = false := by rfl)
    (hc : PE X (.Constant (.int c) j p2) (tC (.int c)) := by exact pe_int)
    (m : M2 X (.Name x p) "get" apos e (.Constant (.int c) j p2) cpos := by exact ⟨rfl, rfl, rfl, rfl⟩) :
    QE X cl W pg (.Call (.Attribute (.Name x p) "get" apos) [e, .Constant (.int c) j p2] [] cpos) (.kget k ea c) :=
  PE.of (pe_kget G hg hd he hc m) fun σ H Q ⟨ρ, R, M, s, p⟩ => ⟨ρ, R, M, s, (Post.bindF (x := evE pg ea ρ) [] p).mono fun v H1 ⟨y, N, ρ1, hr, s1, p1⟩ => by
    subst hr
    obtain ⟨d, o⟩ := y
    dsimp only at p1
    cases d with
    | str t =>
      obtain ⟨Le, he, g⟩ := Sta.front (N := [.val v (.str t) o]) s1
      refine ⟨t, str_of g, ?_⟩
      have p1 : Post X.K cl repV R M W σ Q (.ok (.int (((pg.tb k).lookup t).getD c), .sh) ρ1) := p1
      rw [hv] at p1
      exact p1 _ H1 _ rfl (Sta.ofFront (N := [.val (.int ((T.lookup t).getD c)) (.int ((T.lookup t).getD c)) .sh]) he (g.tail.flat (.int _)))
    | _ => exact p1.elim⟩
theorem pe_negc {X : Cx} {c : Int} {j : Nat} {p2 p3 : Pos} : PE X (.UnaryOp .USub (.Constant (.int c) j p2) p3) (tC (.int (-c))) := PE.of (pe_un un_neg pe_int) fun σ H Q h => ⟨c, rfl, h⟩
theorem re_kgetN {T : List (Str × Int)} {j : Nat} {p3 : Pos} (k : Nat) (c : Int) (G : GTab X.K X.w X.mg x T) (he : QE X cl W pg e ea) (hv : pg.tb k = T := by rfl) (hg : Gl X x := by rfl) (hd : (x == ("__debug__" : Str)) = false := by rfl)
    (hc : PE X (.UnaryOp .USub (.Constant (.int c) j p2) p3) (tC (.int (-c))) := by exact pe_negc)
    (m : M2 X (.Name x p) "get" apos e (.UnaryOp .USub (.Constant (.int c) j p2) p3) cpos := by exact ⟨rfl, rfl, rfl, rfl⟩) :
    QE X cl W pg (.Call (.Attribute (.Name x p) "get" apos) [e, .UnaryOp .USub (.Constant (.int c) j p2) p3] [] cpos) (.kget k ea (-c)) :=
  PE.of (pe_kget G hg hd he hc m) fun σ H Q ⟨ρ, R, M, s, p⟩ => ⟨ρ, R, M, s, (Post.bindF (x := evE pg ea ρ) [] p).mono fun v H1 ⟨y, N, ρ1, hr, s1, p1⟩ => by
    subst hr
    obtain ⟨d, o⟩ := y
    dsimp only at p1
    cases d with
    | str t =>
      obtain ⟨Le, he, g⟩ := Sta.front (N := [.val v (.str t) o]) s1
      refine ⟨t, str_of g, ?_⟩
      have p1 : Post X.K cl repV R M W σ Q (.ok (.int (((pg.tb k).lookup t).getD (-c)), .sh) ρ1) := p1
      rw [hv] at p1
      exact p1 _ H1 _ rfl (Sta.ofFront (N := [.val (.int ((T.lookup t).getD (-c))) (.int ((T.lookup t).getD (-c))) .sh]) he (g.tail.flat (.int _)))
    | _ => exact p1.elim⟩
end
end FB
namespace FB
open PySem L2 PyProof.Rows
/-! ### a method that changes a part of a held object, called on a field of the same object -/
section
variable {X : Cx} {cl : Nat → Addr} {att : Nat → Str → Bool} {W : WX} {i : Nat} {p : List PStep} {m : Mu} {T id : String} {r : V → List V → Hp → VK → Prop} {f : Str}
theorem rdF_ok {K : PySem.W.Frag} {σ : L2.St} {H R : Hp} {ρ ρ1 : FEnv} {M : List Item} {x : DO} (s : Sta K cl σ H R ρ M) (e : rdF att i f ρ = .ok x ρ1) :
    ∃ v w, σ[i]? = some (some v) ∧ PathV K cl att H [.fld f] v w ∧ Sta K cl σ H R ρ1 (.val w x.1 .sh :: M) := by
  unfold rdF at e
  split at e
  · rename_i c fs ds os e0
    split at e
    · rename_i ha
      split at e
      · rename_i d k e1 e2
        cases e
        obtain ⟨v, hv1, s1⟩ := s.take e0
        obtain ⟨Le, he, g⟩ := Sta.front (N := [.val v (.obj c fs ds) (.node os)]) s1
        obtain ⟨w, hp, g2⟩ := g.rdNode ha e1 e2
        have hi : i < ρ.length := (List.getElem?_eq_some_iff.mp e0).1
        refine ⟨v, w, hv1, hp, ?_⟩
        have s2 : Sta K cl σ H R (ρ.set i none) (.val v (.obj c fs ds) (.node (os.set k .sh)) :: ([.val w d .sh] ++ M)) := Sta.ofFront (N := [.val v (.obj c fs ds) (.node (os.set k .sh)), .val w d .sh]) he (g2.perm (List.Perm.swap _ _ _))
        have s3 := s2.give (by rw [List.getElem?_set_self hi]) hv1
        rw [set_set] at s3
        exact s3
      · cases e
    · cases e
  · rename_i c fs ds e0
    split at e
    · rename_i ha
      split at e
      · rename_i d k e1 e2
        cases e
        obtain ⟨v, hv1, s1⟩ := s.take e0
        obtain ⟨Le, he, g⟩ := Sta.front (N := [.val v (.obj c fs ds) .root]) s1
        obtain ⟨w, hp, g2⟩ := g.rdRoot ha e1 e2
        have hi : i < ρ.length := (List.getElem?_eq_some_iff.mp e0).1
        refine ⟨v, w, hv1, hp, ?_⟩
        have s2 : Sta K cl σ H R (ρ.set i none) (.val v (.obj c fs ds) .root :: ([.val w d .sh] ++ M)) := Sta.ofFront (N := [.val v (.obj c fs ds) .root, .val w d .sh]) he (g2.perm (List.Perm.swap _ _ _))
        have s3 := s2.give (by rw [List.getElem?_set_self hi]) hv1
        rw [set_set] at s3
        have e5 : ρ.set i (some (.obj c fs ds, .root)) = ρ := by
          have := List.set_getElem_self (as := ρ) hi
          rw [(List.getElem?_eq_some_iff.mp e0).2] at this
          exact this
        rw [e5] at s3
        exact s3
      · cases e
    · cases e
  · cases e
theorem rdF_exc {ρ ρ1 : FEnv} {x : Exn} : rdF att i f ρ ≠ .exc x ρ1 := by
  unfold rdF
  intro h
  split at h
  · split at h
    · split at h <;> cases h
    · cases h
  · split at h
    · split at h <;> cases h
    · cases h
  · cases h
theorem mutR_read {σ : L2.St} {H : Hp} {Q : VK} (hT : (T = "list" ∧ m ≠ .clearD) ∨ (T = "dict" ∧ m = .clearD)) (hm : MuT X cl m T r) (h : Rd1 X.K cl repV W (mutRF att i p m f) σ H Q) :
    tBM X.K T r (tP X.K cl att i p) (fun σ H Q => tP X.K cl att i [.fld f] σ H fun v H1 => Q [v] H1) σ H Q := by
  obtain ⟨ρ, R, M, s, q⟩ := h
  unfold mutRF at q
  cases hr : rdF att i f ρ with
  | exc x ρ1 => exact (rdF_exc hr).elim
  | stuck => rw [hr] at q; exact q.elim
  | ok y ρ1 =>
    obtain ⟨v0, w0, hv0, hp0, s1⟩ := rdF_ok s hr
    rw [hr] at q
    have q : Post X.K cl repV R M W σ Q (mutF att i p m (fun ρ2 => .ok [y] ρ2) ρ1) := q
    unfold mutF at q
    split at q
    · rename_i x e
      split at q
      · rename_i d eg
        split at q
        · rename_i ht
          obtain ⟨v, hv, s2⟩ := s1.take (d := x.1) (o := x.2) e
          obtain ⟨Le, he, g⟩ := Sta.front (N := [.val v x.1 x.2]) s2
          obtain ⟨w, C, h1, g2, k⟩ := Good.focus p g eg
          have hty := tyM_ty ht hT
          refine ⟨v, w, hv, h1, tyV_root g2 hty, v0, w0, hv0, hp0, ?_⟩
          have q : Post X.K cl repV R M W σ Q (opt (muD m d [y.1]) (ρ1.set i none) fun r => opt (setAt p x (r.2, .root)) (ρ1.set i none) fun x' => (match (ρ1.set i none)[i]? with
            | some none => .ok (r.1, .sh) ((ρ1.set i none).set i (some x'))
            | _ => .stuck)) := q
          obtain ⟨⟨z, d2⟩, hz, q3⟩ := q.opt
          obtain ⟨x', hx', q4⟩ := q3.opt
          split at q4
          · rename_i e0
            have g5 : Good X.K cl R H (.val w d .root :: (shs [w0] [y.1] ++ (C ++ (Le ++ M)))) := by
              refine g2.perm ?_
              have p1 : (C ++ (Le ++ (.val w0 y.1 .sh :: M))).Perm (.val w0 y.1 .sh :: (C ++ (Le ++ M))) := by
                rw [← List.append_assoc]
                refine (List.perm_middle (a := Item.val w0 y.1 .sh) (l₁ := C ++ Le) (l₂ := M)).trans (List.Perm.cons _ ?_)
                rw [List.append_assoc]
              exact List.Perm.cons _ p1
            refine hm hty rfl g5 hz fun v' H' g6 => q4 v' H' _ rfl ?_
            have g7 : Good X.K cl R H' (.val w d2 .root :: (C ++ (.val v' z .sh :: (Le ++ M)))) := by
              refine g6.perm ((List.Perm.swap _ _ _).trans (List.Perm.cons _ ?_))
              exact List.perm_middle.symm
            have g8 := k hx' g7
            have s4 : Sta X.K cl σ H' R (ρ1.set i none) (.val v x'.1 x'.2 :: ([.val v' z .sh] ++ M)) := Sta.ofFront (N := [.val v x'.1 x'.2, .val v' z .sh]) he g8
            exact s4.give e0 hv
          · exact q4.elim
        · exact q.elim
      · exact q.elim
    · exact q.elim
end
section
variable {X : Cx} {cl : Nat → Addr} {W : WX} {n : Nat} {pg : Pg} {o e : Expr} {pos apos : Pos} {m : Str}
theorem re_mutR {T id : String} {i : Nat} {p : List PStep} {f : Str} {mu : Mu} {r : V → List V → Hp → VK → Prop} (pa : PlainAttrs T) (slot : Slot T m id) (hty : typeOf (.builtin id) = pure (.type "method_descriptor")) (hm : MtR X id r) (hT : (T = "list" ∧ mu ≠ .clearD) ∨ (T = "dict" ∧ mu = .clearD)) (mt : MuT X cl mu T r) (ho : PE X o (tP X.K cl pg.att i p)) (ha : PE X e (tP X.K cl pg.att i [.fld f]))
    (hbase : attributeBase o m X.env (eval o X.env) = eval o X.env := by rfl)
    (hfew : ((backTo pos (starEach [e] X.env)).all (fun x => !x.1) && (backToKw pos (keywordEach [] X.env)).all (fun x => x.1.isSome)
      && decide ([e].length + ([] : List Keyword).length + (if ([] : List Keyword).isEmpty then 0 else 1) < 30)) = true := by rfl)
    (hline : (apos.endLine == pos.line) = true := by rfl) (hst : starEach [e] X.env = (false, eval e X.env) :: starEach [] X.env := by rfl) (hplain : (backTo pos (starEach [] X.env)).any (·.1) = false := by rfl) :
    QE X cl W pg (.Call (.Attribute o m apos) [e] [] pos) (.mutR i p mu f) :=
  PE.of (pe_bm pa slot hty hm ho (pa_cons ha pa_nil hst) hbase hfew hline hst hplain) fun σ H Q h => mutR_read hT mt h
end
end FB
namespace FB
open PySem L2 PyProof.Rows
/-! ### a def with defaults, all written at the call -/
theorem funF_mkD {K : PySem.W.Frag} {x qual : Str} {st : Stmt} {f : Addr} {fd : FuncData} {ps : List Str} {dvs : List V} {kws : List (Str × V)} (F : FunD K x qual (defArgs st) (defBody st) (defScope st) dvs kws f fd) (hd : dvs ≠ [])
    (h : ∀ (T : Addr) (kV doc pm : Value) (an : Option Addr) (cdv ct : Value) (us its : List Value), us.length = ps.length → its.length = dvs.length →
      ∃ k, bindArgs (PySem.W.fnOf x qual (defArgs st) (defBody st) (defScope st) (.ref T) kV doc pm an cdv ct) ⟨us, []⟩ = seqItems? (.ref T) >>= k ∧ k (some its.toArray) = pure (ps.zip us)) : FunF K x qual st f ps := by
  obtain ⟨ds, hv, hb⟩ := F.binds1 (ps := ps) ps.length dvs.length hd (by omega) fun T kV doc pm an cdv ct us its h1 h2 => by
    obtain ⟨k, e1, e2⟩ := h T kV doc pm an cdv ct us its h1 h2
    refine ⟨k, e1, ?_⟩
    rw [e2, List.drop_of_length_le (by omega), List.append_nil]
  rw [List.drop_length] at hv
  cases hv
  obtain ⟨oc, od, dV, kV, doc, pm, an, cdv, ct, osl, h1, h2, h3, _, _⟩ := F.ex
  exact ⟨⟨fd, ⟨⟨oc, od, dV, kV, doc, pm, an, cdv, ct, osl, h1, h2, h3⟩, F.kp⟩, .nil hb⟩, F.kp⟩
/-- .. or without the last ones -/
theorem funF_mkDD {K : PySem.W.Frag} {x qual : Str} {st : Stmt} {f : Addr} {fd : FuncData} {ps : List Str} {dvs : List V} {kws : List (Str × V)} (n j : Nat) (df : List Const) (F : FunD K x qual (defArgs st) (defBody st) (defScope st) dvs kws f fd) (hd : dvs ≠ [])
    (h : ∀ (T : Addr) (kV doc pm : Value) (an : Option Addr) (cdv ct : Value) (us its : List Value), us.length = ps.length → its.length = dvs.length →
      ∃ k, bindArgs (PySem.W.fnOf x qual (defArgs st) (defBody st) (defScope st) (.ref T) kV doc pm an cdv ct) ⟨us, []⟩ = seqItems? (.ref T) >>= k ∧ k (some its.toArray) = pure (ps.zip us))
    (h2 : ∀ (T : Addr) (kV doc pm : Value) (an : Option Addr) (cdv ct : Value) (us its : List Value), us.length = n → its.length = dvs.length →
      ∃ k, bindArgs (PySem.W.fnOf x qual (defArgs st) (defBody st) (defScope st) (.ref T) kV doc pm an cdv ct) ⟨us, []⟩ = seqItems? (.ref T) >>= k ∧ k (some its.toArray) = pure (ps.zip (us ++ its.drop j)))
    (hn : n + (dvs.length - j) = ps.length) (he : dvs.drop j = df.map constV) (hc : ∀ c ∈ df, (constD c).isSome = true) : FunF K x qual st f ps [df] := by
  obtain ⟨ds, hv, hb⟩ := F.binds1 (ps := ps) ps.length dvs.length hd (by omega) fun T kV doc pm an cdv ct us its h1 h2 => by
    obtain ⟨k, e1, e2⟩ := h T kV doc pm an cdv ct us its h1 h2
    refine ⟨k, e1, ?_⟩
    rw [e2, List.drop_of_length_le (by omega), List.append_nil]
  rw [List.drop_length] at hv
  cases hv
  have b2 := F.binds1 (ps := ps) n j hd hn h2
  rw [he] at b2
  obtain ⟨oc, od, dV, kV, doc, pm, an, cdv, ct, osl, h1, h2, h3, _, _⟩ := F.ex
  exact ⟨⟨fd, ⟨⟨oc, od, dV, kV, doc, pm, an, cdv, ct, osl, h1, h2, h3⟩, F.kp⟩, hb, fun d hd => by rw [List.mem_singleton] at hd; subst hd; exact ⟨hc, b2⟩⟩, F.kp⟩
end FB
namespace FB
open PySem L2 PyProof.Rows
theorem insI_perm (x : Int) : ∀ L : List Int, (insI x L).Perm (x :: L)
  | [] => .refl _
  | y :: ys => by
    unfold insI
    split
    · exact .refl _
    · exact ((insI_perm x ys).cons y).trans (List.Perm.swap _ _ _)
theorem sortI_perm : ∀ L : List Int, (sortI L).Perm L
  | [] => .refl _
  | x :: xs => (insI_perm x _).trans ((sortI_perm xs).cons x)
theorem insI_pw (x : Int) : ∀ L : List Int, L.Pairwise (· ≤ ·) → (insI x L).Pairwise (· ≤ ·)
  | [], _ => by simp [insI]
  | y :: ys, h => by
    unfold insI
    rw [List.pairwise_cons] at h
    split
    · rename_i hxy
      rw [List.pairwise_cons, List.pairwise_cons]
      refine ⟨fun a ha => ?_, h⟩
      rcases List.mem_cons.mp ha with rfl | ha
      · exact hxy
      · exact Int.le_trans hxy (h.1 a ha)
    · rename_i hxy
      rw [List.pairwise_cons]
      refine ⟨fun a ha => ?_, insI_pw x ys h.2⟩
      have := (insI_perm x ys).mem_iff.mp ha
      rcases List.mem_cons.mp this with rfl | ha
      · omega
      · exact h.1 a ha
theorem sortI_pw : ∀ L : List Int, (sortI L).Pairwise (· ≤ ·)
  | [] => .nil
  | x :: xs => insI_pw x _ (sortI_pw xs)
theorem sortI_eq {ys L : List Int} (h : ys.Perm L) (p : ys.Pairwise (· ≤ ·)) : ys = sortI L :=
  List.Perm.eq_of_pairwise (le := fun a b : Int => a ≤ b) (fun a b _ _ h1 h2 => Int.le_antisymm h1 h2) p (sortI_pw L) (h.trans (sortI_perm L).symm)
theorem keyInts_eq : ∀ {ks : List Key} {is : List Int}, keyInts ks = some is → ks = is.map Sum.inl
  | [], is, h => by cases h; rfl
  | .inl i :: ks, is, h => by
    simp only [keyInts, Option.map_eq_some_iff] at h
    obtain ⟨js, h, rfl⟩ := h
    rw [keyInts_eq h]; rfl
  | .inr _ :: _, _, h => by cases h
theorem inv_sorted {ds : List D} {z : DO} (h : biD .sorted ds = some z) : ∃ ks xs is, ds = [.dic ks xs] ∧ keyInts ks = some is ∧ is.length < 64 ∧ z = (.lst ((sortI is).map .int), .root) := by
  unfold biD at h
  split at h <;> simp_all
  rw [Option.bind_eq_some_iff] at h
  obtain ⟨is, h1, h2⟩ := h
  split at h2
  · rename_i hl
    cases h2
    exact ⟨is, h1, hl, rfl⟩
  · cases h2
section
variable {X : Cx} {cl : Nat → Addr}
theorem bi_sorted (hc : X.calm = true) : CallR X (.builtin "sorted") (rBi X.K cl (biD .sorted)) := by
  intro pins s σ H vs us Q I r ⟨ds, R, M, z, hl, g, hz, q⟩
  obtain ⟨ks, xs, is, rfl, hk, h64, rfl⟩ := inv_sorted hz
  obtain ⟨v, rfl⟩ : ∃ v, vs = [v] := by match vs, hl with | [v], _ => exact ⟨v, rfl⟩
  obtain ⟨P, ex, h1⟩ := Good.fact1 g
  cases h1 with
  | @dic a _ vs' _ e hk2 r0 =>
    have e1 := keyInts_eq hk
    refine call_sortedDI hc pins s σ H _ us Q I r ⟨a, ks.zip vs', is, rfl, ex_rd ex e, by rw [List.map_fst_zip (Nat.le_of_eq hk2), e1], h64, fun ys p hp hy hn => ?_⟩
    have ey := sortI_eq hp hy
    subst ey
    have g2 : Good X.K cl R H (shs ((sortI is).map V.int) ((sortI is).map D.int) ++ M) := (Good.tail g).rssP (rss_ints _)
    exact q _ _ ((g2.alloc hn).packLst (by rw [List.length_map, List.length_map]))
end
end FB
namespace FB
open PySem L2 PyProof.Rows
/-! ### a dict locked and unlocked -/
structure Sw (P P' : Hp) : Prop where
  l : ∀ b xs, P b = some (.lst xs) → P' b = some (.lst xs)
  i : ∀ b c dx fs, P b = some (.ins c dx fs) → P' b = some (.ins c dx fs)
  r : ∀ b u, (∀ o x, u ≠ .frz o x) → Rd P b u → Rd P' b u
section
variable {K : PySem.W.Frag} {cl : Nat → Addr} {P P' H H' R : Hp}
theorem sw_l {a : Addr} {xs : List V} (s : Sw P P') (h : SqL K P a xs) : SqL K P' a xs := h.imp (s.r _ _ fun _ _ z => nomatch z) id
theorem sw_t {a : Addr} {xs : List V} (s : Sw P P') (h : SqT K P a xs) : SqT K P' a xs := h.imp (s.r _ _ fun _ _ z => nomatch z) id
theorem sw_d {a : Addr} {k : List (Key × V)} (s : Sw P P') (h : Rd P a (.dK k)) : Rd P' a (.dK k) := s.r _ _ (fun _ _ z => nomatch z) h
mutual
theorem Rs.sw (s : Sw P P') : ∀ {v : V} {d : D}, Rs K cl P v d → Rs K cl P' v d
  | _, _, .non => .non
  | _, _, .bl b => .bl b
  | _, _, .int i => .int i
  | _, _, .str x => .str x
  | _, _, .lst h r => .lst (s.l _ _ h) (Rss.sw s r)
  | _, _, .frz h r => .frz (sw_l s h) (Rss.sw s r)
  | _, _, .tup h r => .tup (sw_t s h) (Rss.sw s r)
  | _, _, .dic h l r => .dic (sw_d s h) l (Rss.sw s r)
  | _, _, .obj h l r => .obj (s.i _ _ _ _ h) l (Rss.sw s r)
theorem Rss.sw (s : Sw P P') : ∀ {vs : List V} {ds : List D}, Rss K cl P vs ds → Rss K cl P' vs ds
  | _, _, .nil => .nil
  | _, _, .cons h r => .cons (Rs.sw s h) (Rss.sw s r)
end
mutual
theorem Ro.sw (e : Sw P P') : ∀ {v : V} {d : D} {o : O} {f : List Addr}, Ro K cl P H v d o f → (∀ b ∈ f, ∀ u, H b = some u → H' b = some u) → Ro K cl P' H' v d o f
  | _, _, _, _, .sh h, _ => .sh (h.sw e)
  | _, _, _, _, .lstR h r, k => .lstR (k _ List.mem_cons_self _ h) (r.sw e)
  | _, _, _, _, .tupR h r, k => .tupR (k _ List.mem_cons_self _ h) (r.sw e)
  | _, _, _, _, .dicR h l r, k => .dicR (k _ List.mem_cons_self _ h) l (r.sw e)
  | _, _, _, _, .objR h l r, k => .objR (k _ List.mem_cons_self _ h) l (r.sw e)
  | _, _, _, _, .lstN h r, k => .lstN (k _ List.mem_cons_self _ h) (Ros.sw e r fun b hb => k b (List.mem_cons_of_mem _ hb))
  | _, _, _, _, .tupN h r, k => .tupN (k _ List.mem_cons_self _ h) (Ros.sw e r fun b hb => k b (List.mem_cons_of_mem _ hb))
  | _, _, _, _, .objN h l r, k => .objN (k _ List.mem_cons_self _ h) l (Ros.sw e r fun b hb => k b (List.mem_cons_of_mem _ hb))
theorem Ros.sw (e : Sw P P') : ∀ {vs : List V} {ds : List D} {os : List O} {f : List Addr}, Ros K cl P H vs ds os f → (∀ b ∈ f, ∀ u, H b = some u → H' b = some u) → Ros K cl P' H' vs ds os f
  | _, _, _, _, .nil, _ => .nil
  | _, _, _, _, .cons h r, k => .cons (Ro.sw e h fun b hb => k b (List.mem_append_left _ hb)) (Ros.sw e r fun b hb => k b (List.mem_append_right _ hb))
end
theorem Its.sw (e : Sw P P') : ∀ {L : List Item} {f : List Addr}, Its K cl P H L f → (∀ b ∈ f, ∀ u, H b = some u → H' b = some u) → Its K cl P' H' L f
  | _, _, .nil, _ => .nil
  | _, _, .val h r, k => .val (h.sw e fun b hb => k b (List.mem_append_left _ hb)) (Its.sw e r fun b hb => k b (List.mem_append_right _ hb))
  | _, _, .cell h n r, k => .cell (k _ List.mem_cons_self _ h) n (Its.sw e r fun b hb => k b (List.mem_cons_of_mem _ hb))
theorem Sw.lock {a : Addr} {od : Obj} {kvs : List (Key × V)} (h : P a = some (.dK kvs)) : Sw P (upd P a (.frz od (.dK kvs))) := by
  have ne : ∀ b o, P b = some o → (∀ k, o ≠ .dK k) → b ≠ a := fun b o e n z => by
    rw [z, h] at e; cases e; exact n _ rfl
  refine ⟨fun b xs e => ?_, fun b c dx fs e => ?_, fun b u nf e => ?_⟩
  · rw [upd_ne (ne b _ e fun _ z => nomatch z)]; exact e
  · rw [upd_ne (ne b _ e fun _ z => nomatch z)]; exact e
  · by_cases hb : b = a
    · subst hb
      rcases e with e | ⟨o, e⟩
      · rw [h] at e; cases e
        exact .inr ⟨od, upd_same⟩
      · rw [h] at e; cases e
    · rcases e with e | ⟨o, e⟩
      · exact .inl (by rw [upd_ne hb]; exact e)
      · exact .inr ⟨o, by rw [upd_ne hb]; exact e⟩
theorem Sw.unlock {a : Addr} {od : Obj} {kvs : List (Key × V)} (h : P a = some (.frz od (.dK kvs))) : Sw P (upd P a (.dK kvs)) := by
  have ne : ∀ b o, P b = some o → (∀ o' k, o ≠ .frz o' k) → b ≠ a := fun b o e n z => by
    rw [z, h] at e; cases e; exact n _ _ rfl
  refine ⟨fun b xs e => ?_, fun b c dx fs e => ?_, fun b u nf e => ?_⟩
  · rw [upd_ne (ne b _ e fun _ _ z => nomatch z)]; exact e
  · rw [upd_ne (ne b _ e fun _ _ z => nomatch z)]; exact e
  · by_cases hb : b = a
    · subst hb
      rcases e with e | ⟨o, e⟩
      · rw [h] at e; cases e
        exact absurd rfl (nf _ _)
      · rw [h] at e; cases e
        exact .inl upd_same
    · rcases e with e | ⟨o, e⟩
      · exact .inl (by rw [upd_ne hb]; exact e)
      · exact .inr ⟨o, by rw [upd_ne hb]; exact e⟩
theorem ex_upd {a : Addr} {o : HO} (e : Ex P P') : Ex (upd P a o) (upd P' a o) := fun b u h => by
  by_cases hb : b = a
  · subst hb; rw [upd_same] at h ⊢; exact h
  · rw [upd_ne hb] at h ⊢; exact e b u h
theorem Good.lock {a : Addr} {od : Obj} {kvs : List (Key × V)} {L : List Item} (g : Good K cl P H L) (h : P a = some (.dK kvs)) : Good K cl (upd P a (.frz od (.dK kvs))) (upd H a (.frz od (.dK kvs))) L := by
  obtain ⟨P1, f, r1, r2, c, n, e⟩ := g
  have ha := r1 _ _ h
  have nf : ∀ b ∈ f, b ≠ a := fun b hb z => by rw [z] at hb; rw [c a hb] at ha; cases ha
  exact ⟨upd P1 a (.frz od (.dK kvs)), f, ex_upd r1, ex_upd r2, fun b hb => by rw [upd_ne (nf b hb)]; exact c b hb, n, e.sw (.lock ha) fun b hb u hu => by rw [upd_ne (nf b hb)]; exact hu⟩
theorem upd_upd {a : Addr} {o o' : HO} : upd (upd H a o) a o' = upd H a o' := by
  funext b
  by_cases hb : b = a
  · subst hb; rw [upd_same, upd_same]
  · rw [upd_ne hb, upd_ne hb, upd_ne hb]
theorem upd_id {a : Addr} {o : HO} (h : H a = some o) : upd H a o = H := by
  funext b
  by_cases hb : b = a
  · subst hb; rw [upd_same, h]
  · rw [upd_ne hb]
theorem Good.unlock {a : Addr} {od : Obj} {kvs : List (Key × V)} {L : List Item} (g : Good K cl (upd P a (.frz od (.dK kvs))) H L) (h : P a = some (.dK kvs)) : Good K cl P (upd H a (.dK kvs)) L := by
  obtain ⟨P1, f, r1, r2, c, n, e⟩ := g
  have ha := r1 a _ upd_same
  have nf : ∀ b ∈ f, b ≠ a := fun b hb z => by rw [z] at hb; rw [c a hb] at ha; cases ha
  refine ⟨upd P1 a (.dK kvs), f, ?_, ex_upd r2, fun b hb => by rw [upd_ne (nf b hb)]; exact c b hb, n, e.sw (.unlock ha) fun b hb u hu => by rw [upd_ne (nf b hb)]; exact hu⟩
  have q : Ex (upd (upd P a (.frz od (.dK kvs))) a (.dK kvs)) (upd P1 a (.dK kvs)) := ex_upd r1
  rw [upd_upd, upd_id h] at q
  exact q
theorem Sta.lock {a : Addr} {od : Obj} {kvs : List (Key × V)} {σ : L2.St} {ρ : FEnv} {M : List Item} (s : Sta K cl σ H P ρ M) (h : P a = some (.dK kvs)) : Sta K cl σ (upd H a (.frz od (.dK kvs))) (upd P a (.frz od (.dK kvs))) ρ M := let ⟨Le, x, g⟩ := s; ⟨Le, x, g.lock h⟩
theorem Sta.unlock {a : Addr} {od : Obj} {kvs : List (Key × V)} {σ : L2.St} {ρ : FEnv} {M : List Item} (s : Sta K cl σ H (upd P a (.frz od (.dK kvs))) ρ M) (h : P a = some (.dK kvs)) : Sta K cl σ (upd H a (.dK kvs)) P ρ M := let ⟨Le, x, g⟩ := s; ⟨Le, x, g.unlock h⟩
theorem XOk.unlock {a : Addr} {o : HO} {x : Exn} {dx : Option Addr} (h : XOk H x dx) (n : ∀ fs, H a ≠ some (.xd fs)) : XOk (upd H a o) x dx := by
  rcases h with h | ⟨h1, d, vs, h2, h3, h4⟩
  · exact .inl h
  · exact .inr ⟨h1, d, vs, h2, by rw [upd_ne fun z => n _ (by rw [← z]; exact h3)]; exact h3, h4⟩
theorem PathV.lock {att : Nat → Str → Bool} {a : Addr} {od : Obj} {kvs : List (Key × V)} (h : H a = some (.dK kvs)) : ∀ {p : List PStep} {v w : V}, PathV K cl att H p v w → PathV K cl att (upd H a (.frz od (.dK kvs))) p v w
  | [], _, _, e => e
  | .idx n :: p, v, w, ⟨x, xs, u, e1, e2, e3, r⟩ => ⟨x, xs, u, e1, e2.imp (sw_l (.lock h)) (sw_t (.lock h)), e3, r.lock h⟩
  | .fld f :: p, v, w, ⟨x, c, dx, fs, u, e1, e2, e3, e4, r⟩ => ⟨x, c, dx, fs, u, e1, (Sw.lock h).i _ _ _ _ e2, e3, e4, r.lock h⟩
/-! ### what a dict's loop goes over -/
theorem key_flat : ∀ k : Key, Flat (kV k) (keyV k)
  | .inl i => .int i
  | .inr s => .str s
theorem zip_get : ∀ {ks : List Key} {vs : List V} {ds : List D} {i : Nat}, ks.length = vs.length → Rss K cl P vs ds → i < ks.length → ∃ k v d, (ks.zip vs)[i]? = some (k, v) ∧ (ks.zip ds)[i]? = some (k, d) ∧ ks[i]? = some k ∧ Rs K cl P v d
  | k :: ks, v :: vs, d :: ds, 0, _, .cons h r, _ => ⟨k, v, d, rfl, rfl, rfl, h⟩
  | k :: ks, v :: vs, d :: ds, i + 1, hl, .cons h r, hi => by
    obtain ⟨k', v', d', e1, e2, e3, e4⟩ := zip_get (i := i) (Nat.succ.inj hl) r (Nat.lt_of_succ_lt_succ hi)
    exact ⟨k', v', d', by simpa using e1, by simpa using e2, by simpa using e3, e4⟩
  | [], _, _, _, _, _, hi => by simp at hi
  | _ :: _, [], _, _, hl, _, _ => by cases hl
theorem itk_ok {a : Addr} {od : Obj} {ks : List Key} {vs : List V} {ds : List D} (h : P a = some (.frz od (.dK (ks.zip vs)))) (hl : ks.length = vs.length) (r : Rss K cl P vs ds) : ItOk K cl P (Itk a od (ks.zip vs)) (ks.map keyV) := fun H ex => by
  have ez : (ks.zip vs).length = ks.length := by rw [List.length_zip, ← hl, Nat.min_self]
  refine ⟨⟨ex _ _ h, by rw [ez, List.length_map]; exact Nat.le_refl _⟩, fun i d hd => ?_⟩
  have hi : i < ks.length := by
    have := (List.getElem?_eq_some_iff.mp hd).1
    rw [List.length_map] at this; exact this
  obtain ⟨k, v, d', e1, e2, e3, e4⟩ := zip_get hl r hi
  refine ⟨⟨ex _ _ h, by rw [ez]; exact hi⟩, fun x H' ⟨eH, k', v', y1, y2⟩ L g => ?_⟩
  rw [e1] at y1
  cases y1
  subst eH y2
  rw [List.getElem?_map, e3] at hd
  cases hd
  exact g.flat (key_flat k)
theorem iti_ok {a : Addr} {od : Obj} {ks : List Key} {vs : List V} {ds : List D} (h : P a = some (.frz od (.dK (ks.zip vs)))) (hl : ks.length = vs.length) (r : Rss K cl P vs ds) : ItOk K cl P (Iti a od (ks.zip vs)) ((ks.zip ds).map fun p => .tup [keyV p.1, p.2]) := fun H ex => by
  have ez : (ks.zip vs).length = ks.length := by rw [List.length_zip, ← hl, Nat.min_self]
  have ed : (ks.zip ds).length = ks.length := by rw [List.length_zip, ← r.length, ← hl, Nat.min_self]
  refine ⟨⟨ex _ _ h, by rw [ez, List.length_map, ed]; exact Nat.le_refl _⟩, fun i d hd => ?_⟩
  have hi : i < ks.length := by
    have := (List.getElem?_eq_some_iff.mp hd).1
    rw [List.length_map, ed] at this; exact this
  obtain ⟨k, v, d', e1, e2, e3, e4⟩ := zip_get hl r hi
  refine ⟨⟨ex _ _ h, by rw [ez]; exact hi⟩, fun x H' ⟨T, k', v', y1, y2, hT, eH⟩ L g => ?_⟩
  rw [e1] at y1
  cases y1
  subst eH y2
  rw [List.getElem?_map, e2] at hd
  cases hd
  have g2 : Good K cl P H (shs [kV k, v] [keyV k, d'] ++ L) := g.rssP (.cons (key_flat k).rs (.cons e4 .nil))
  exact ((g2.alloc hT).packTup rfl).share
end
/-! ### the loop -/
section
variable {X : Cx} {cl : Nat → Addr} {W : WX} {io : List Nat} {pos pos' : Pos}
theorem ps_or {st : Stmt} {t1 t2 : TS} (h1 : PS X st t1) (h2 : PS X st t2) : PS X st (fun D σ H => t1 D σ H ∨ t2 D σ H) :=
  ⟨fun pins s σ H D I h => h.elim (h1.run pins s σ H D I) (h2.run pins s σ H D I)⟩
/-- what a for-loop asks behind its iterator -/
theorem for_core {js : List Nat} {tp : Bool} {g : TG} {fb : FEnv → Fl} {J : L2.It} {ds : List D} {P : Hp} {M : List Item} {k : Nat → Option (Option V)} {Dn : Ends} {σ : L2.St} {H1 : Hp} {ρ1 : FEnv} (hg : TgR X.K cl js tp g) (hio : ∀ j ∈ io, js.contains j = false) (it : ItOk X.K cl P J ds) (s1 : Sta X.K cl σ H1 P ρ1 M) (hk : Kp io k σ) (p : PostS X.K cl P M W io k Dn (forLoop (forBody js tp fb) ds ρ1)) :
    ∃ Wi : Nat → Nat → L2.St → Hp → Prop, (∃ m, Wi 0 m σ H1) ∧ ∀ i m σ H, Wi i m σ H →
      (J.stop i H ∧ Dn.nx σ H) ∨ (J.go i H ∧ ∃ N : L2.St → Hp → Prop, (∀ σ' H', N σ' H' → ∃ m', m' < m ∧ Wi (i + 1) m' σ' H') ∧ ∀ x H', J.yld i H x H' → g x σ H' fun σ2 H2 => ttS X cl W io fb { Dn with nx := N, ct := N, bk := Dn.nx } σ2 H2) := by
  refine ⟨fun i m σ H => m = ds.length - i ∧ i ≤ ds.length ∧ ∃ ρ, Sta X.K cl σ H P ρ M ∧ Kp io k σ ∧ PostS X.K cl P M W io k Dn (forLoop (forBody js tp fb) (ds.drop i) ρ), ⟨_, rfl, Nat.zero_le _, ρ1, s1, hk, p⟩, ?_⟩
  rintro i m σ H ⟨rfl, hi, ρ, s, hk, p⟩
  obtain ⟨h1, h2⟩ := it H s.raw
  by_cases hlt : i < ds.length
  · right
    obtain ⟨g1, g2⟩ := h2 i _ (List.getElem?_eq_getElem hlt)
    refine ⟨g1, fun σ' H' => ∃ ρ, Sta X.K cl σ' H' P ρ M ∧ Kp io k σ' ∧ PostS X.K cl P M W io k Dn (forLoop (forBody js tp fb) (ds.drop (i + 1)) ρ), fun σ' H' h => ⟨ds.length - (i + 1), by omega, rfl, hlt, h⟩, fun x H' y => ?_⟩
    have s2 : Sta X.K cl σ H' P ρ ([.val x ds[i] .sh] ++ M) := by
      obtain ⟨Le, a, b⟩ := s
      exact Sta.ofFront (N := [.val x ds[i] .sh]) a (g2 x H' y _ b)
    rw [List.drop_eq_getElem_cons hlt] at p
    simp only [forLoop, forBody] at p
    cases eb : bindTg js tp ds[i] ρ with
    | none =>
      rw [eb] at p
      exact p.elim
    | some ρ2 =>
      rw [eb] at p
      refine hg s2 eb fun σ' s3 hke hl => ⟨ρ2, P, M, k, s3, hk.other hio hke, ?_⟩
      dsimp only at p
      cases ef : fb ρ2 with
      | nx ρ3 =>
        rw [ef] at p
        exact fun σ H s hk => ⟨ρ3, s, hk, p⟩
      | ct ρ3 =>
        rw [ef] at p
        exact fun σ H s hk => ⟨ρ3, s, hk, p⟩
      | br ρ3 =>
        rw [ef] at p
        exact p
      | rt d o ρ3 =>
        rw [ef] at p
        exact p
      | exc x ρ3 =>
        rw [ef] at p
        exact p
      | stuck =>
        rw [ef] at p
        exact p
  · left
    have ei : i = ds.length := by omega
    subst ei
    refine ⟨h1, ?_⟩
    rw [List.drop_length] at p
    exact p σ H s hk
def lockD (d : Addr) (od : Obj) (u : HO) (D : Ends) : Ends := ⟨fun σ' H' => H' d = some (.frz od u) ∧ D.nx σ' (upd H' d u), fun v H' => H' d = some (.frz od u) ∧ D.rt v (upd H' d u), fun σ' H' => H' d = some (.frz od u) ∧ D.bk σ' (upd H' d u), fun σ' H' => H' d = some (.frz od u) ∧ D.ct σ' (upd H' d u)⟩
theorem PostS.lock {R P : Hp} {M : List Item} {k : Nat → Option (Option V)} {Dn : Ends} {f : Fl} {a : Addr} {od : Obj} {kvs : List (Key × V)} (ex : Ex R P) (h : P a = some (.dK kvs)) (p : PostS X.K cl R M W io k Dn (noX f)) : PostS X.K cl (upd P a (.frz od (.dK kvs))) M W0 io k (lockD a od (.dK kvs) Dn) f := by
  have hl : ∀ {H : Hp}, Ex (upd P a (.frz od (.dK kvs))) H → H a = some (.frz od (.dK kvs)) := fun e => e _ _ upd_same
  cases f with
  | nx ρ => exact fun σ H s hk => ⟨hl s.raw, p σ _ ((s.unlock h).mono ex) hk⟩
  | br ρ => exact fun σ H s hk => ⟨hl s.raw, p σ _ ((s.unlock h).mono ex) hk⟩
  | ct ρ => exact fun σ H s hk => ⟨hl s.raw, p σ _ ((s.unlock h).mono ex) hk⟩
  | rt d o ρ => exact fun v σ H s hk => ⟨hl s.raw, p v σ _ ((s.unlock h).mono ex) hk⟩
  | exc x ρ => exact p.elim
  | stuck => exact p.elim
theorem PostS.noW {R : Hp} {M : List Item} {k : Nat → Option (Option V)} {Dn : Ends} {f : Fl} (p : PostS X.K cl R M W io k Dn (noX f)) : PostS X.K cl R M W0 io k Dn f := by
  cases f with
  | nx ρ => exact p
  | br ρ => exact p
  | ct ρ => exact p
  | rt d o ρ => exact p
  | exc x ρ => exact p.elim
  | stuck => exact p.elim
/-- a name, or a name's field: a reading that lays nothing -/
structure DSrc (X : Cx) (cl : Nat → Addr) (att : Nat → Str → Bool) (e : Expr) (fe : FEnv → Ev DO) (i : Nat) (p : List PStep) : Prop where
  pe : PE X e (tP X.K cl att i p)
  ok : ∀ {σ : L2.St} {H R : Hp} {ρ : FEnv} {M : List Item}, Sta X.K cl σ H R ρ M → (∃ x ρ1, fe ρ = .ok x ρ1 ∧ ∃ v w, σ[i]? = some (some v) ∧ PathV X.K cl att H p v w ∧ Sta X.K cl σ H R ρ1 ([.val w x.1 .sh] ++ M)) ∨ fe ρ = .stuck
/-- for k in d, for k, v in d.items() -/
theorem ss_forD {tg iter e : Expr} {body : List Stmt} {js : List Nat} {tp : Bool} {g : TG} {fe : FEnv → Ev DO} {fb : FEnv → Fl} {att : Nat → Str → Bool} {i : Nat} {pp : List PStep} (im : Bool) (hp : PassesOwn (model X.prog X.w) X.A X.env X.xe) (hc : X.calm = true) (S : DSrc X cl att e fe i pp)
    (hi : PI X tg iter (if im then iItems (tP X.K cl att i pp) else iKeys (tP X.K cl att i pp))) (hg : TgOk X cl tg js tp g) (hb : PSs X body (ttS X cl W0 io fb))
    (hs : ∀ x, foldedSetIterable iter X.env x = pure x) (hio : ∀ j ∈ io, js.contains j = false) : PS X (.For tg iter body [] pos) (ttS X cl W io fun ρ => (fe ρ).fl fun x ρ1 => (match x.1 with
      | .dic ks ds => noX (forLoop (forBody js tp fb) (dItems im ks ds) ρ1)
      | _ => .stuck)) :=
  have h0 := ps_for hp hc hi hg.pg hb hs
  PS.of (ps_or (ps_lock h0) h0) fun Dn σ H ⟨ρ, R, M, k, s, hk, p⟩ => by
    rcases S.ok s with ⟨⟨d, o⟩, ρ1, er, v, w, hv, hpv, s1⟩ | er
    · have p : PostS X.K cl R M W io k Dn ((fe ρ).fl fun x ρ1 => (match x.1 with
        | .dic ks ds => noX (forLoop (forBody js tp fb) (dItems im ks ds) ρ1)
        | _ => .stuck)) := p
      rw [er] at p
      obtain ⟨P, ex, h1, s2⟩ := s1.grow
      dsimp only at h1
      cases h1 with
      | @dic a ks vs ds e hl r =>
        have p : PostS X.K cl R M W io k Dn (noX (forLoop (forBody js tp fb) (dItems im ks ds) ρ1)) := p
        have s3 := s2.dropL
        rcases e with e | ⟨od, e⟩
        · refine .inl ⟨a, .dK (ks.zip vs), s3.raw _ _ e, trivial, fun od => ?_⟩
          have eH := s3.raw _ _ e
          have s4 := s3.lock (od := od) e
          have p4 := p.lock (od := od) ex e
          have r4 := r.sw (Sw.lock (od := od) e)
          have h4 : (upd P a (.frz od (.dK (ks.zip vs)))) a = some (.frz od (.dK (ks.zip vs))) := upd_same
          cases im with
          | true => exact ⟨v, _, hv, hpv.lock eH, a, od, _, rfl, upd_same, for_core hg.ok hio (iti_ok h4 hl r4) s4 hk p4⟩
          | false => exact ⟨v, _, hv, hpv.lock eH, a, od, rfl, .inl ⟨_, upd_same, for_core hg.ok hio (itk_ok h4 hl r4) s4 hk p4⟩⟩
        · have eH := s3.raw _ _ e
          have p4 := (p.mono ex).noW
          cases im with
          | true => exact .inr ⟨v, _, hv, hpv, a, od, _, rfl, eH, for_core hg.ok hio (iti_ok e hl r) s3 hk p4⟩
          | false => exact .inr ⟨v, _, hv, hpv, a, od, rfl, .inl ⟨_, eH, for_core hg.ok hio (itk_ok e hl r) s3 hk p4⟩⟩
      | _ => exact p.elim
    · have p : PostS X.K cl R M W io k Dn ((fe ρ).fl fun x ρ1 => (match x.1 with
        | .dic ks ds => noX (forLoop (forBody js tp fb) (dItems im ks ds) ρ1)
        | _ => .stuck)) := p
      rw [er] at p
      exact p.elim
theorem ds_v {pg : Pg} {x : Str} (i : Nat) (hN : X.N[i]? = some x := by rfl) (hv : Vis X.env.scope x := by first | exact Or.inl rfl | exact Or.inr (Or.inl rfl) | exact Or.inr (Or.inr rfl)) (hd : (x == ("__debug__" : Str)) = false := by rfl) (hcd : (x == ("__classdict__" : Str)) = false := by rfl) :
    DSrc X cl pg.att (.Name x pos) (evE pg (.v i)) i [] := ⟨pp_name hN hv hd hcd, fun {σ H R ρ M} s => by
  have e0 : evE pg (.v i) ρ = rdV i ρ := rfl
  rw [e0]
  by_cases hst : rdV i ρ = .stuck
  · exact .inr hst
  · obtain ⟨d, o, e, er⟩ := rdV_cases (Z := fun z => rdV i ρ = z) rfl hst
    obtain ⟨v, hv, s1⟩ := s.take e
    have hi : i < ρ.length := (List.getElem?_eq_some_iff.mp e).1
    have s2 : Sta X.K cl σ H R (ρ.set i none) (.val v d .sh :: .val v d .sh :: M) := Sta.item (N := [.val v d o]) (N' := [.val v d .sh, .val v d .sh]) s1 fun L g => g.share.dup
    have s3 := s2.give (by rw [List.getElem?_set_self hi]) hv
    rw [set_set] at s3
    exact .inl ⟨_, _, er, v, v, hv, rfl, s3⟩⟩
theorem ds_fld {pg : Pg} {x f : Str} (i : Nat) (ok : AttOk X.K cl pg.att) (hN : X.N[i]? = some x := by rfl) (hv : Vis X.env.scope x := by first | exact Or.inl rfl | exact Or.inr (Or.inl rfl) | exact Or.inr (Or.inr rfl)) (hd : (x == ("__debug__" : Str)) = false := by rfl) (hcd : (x == ("__classdict__" : Str)) = false := by rfl)
    (hb : attributeBase (.Name x pos') f X.env (eval (.Name x pos') X.env) = eval (.Name x pos') X.env := by rfl) :
    DSrc X cl pg.att (.Attribute (.Name x pos') f pos) (evE pg (.fld (.v i) f)) i [.fld f] := ⟨pp_fld ok (pp_name hN hv hd hcd) hb, fun {σ H R ρ M} s => by
  have D := (ds_v (X := X) (cl := cl) (pg := pg) (pos := pos) i hN hv hd hcd).ok s
  have e0 : evE pg (.fld (.v i) f) ρ = (evE pg (.v i) ρ).bind fun x ρ1 => (match x.1 with
    | .obj c fs ds => if pg.att c f then opt (lookF fs ds f) ρ1 fun z => .ok (z, .sh) ρ1 else .stuck
    | _ => .stuck) := rfl
  rw [e0]
  rcases D with ⟨⟨d, o⟩, ρ1, er, v, w, hv, hpv, s1⟩ | er
  · cases (show v = w from hpv)
    rw [er]
    cases d with
    | obj c fs ds =>
      by_cases hc : pg.att c f = true
      · cases hz : lookF fs ds f with
        | none => right; simp [Ev.bind, hc, hz, opt]
        | some z =>
          obtain ⟨Le, he, g⟩ := Sta.front (N := [.val v (.obj c fs ds) .sh]) s1
          have g : Good X.K cl R H (.val v (.obj c fs ds) .sh :: (Le ++ M)) := g
          obtain ⟨P, ex, h3⟩ := g.fact1
          cases h3 with
          | @obj a dx _ _ vs _ q hl r =>
            obtain ⟨w, hw, _⟩ := lookF_zip hl r hz
            refine .inl ⟨(z, .sh), ρ1, by simp [Ev.bind, hc, hz, opt], _, w, hv, ⟨a, c, dx, fs.zip vs, w, rfl, ex _ _ q, hc, hw, rfl⟩, Sta.ofFront (N := [.val w z .sh]) he ?_⟩
            refine g.derive1 (ws := [w]) (es := [z]) fun P' ex' h' => .one ?_
            cases h' with
            | @obj _ dx' _ _ vs' _ q' hl' r' =>
              have e1 := ex_eq ex' q' (ex _ _ q)
              obtain ⟨w', hw', q2⟩ := lookF_zip hl' r' hz
              injection e1 with _ _ e2
              rw [e2, hw] at hw'
              cases hw'
              exact q2
      · right; simp [Ev.bind, hc]
    | _ => right; rfl
  · right
    rw [er]; rfl⟩
variable {n : Nat} {pg : Pg}
theorem rs_forD {tg e : Expr} {body : List Stmt} {js : List Nat} {tp : Bool} {g : TG} {ee : E} {s2 : Ss} {i : Nat} {pp : List PStep} (hp : PassesOwn (model X.prog X.w) X.A X.env X.xe) (B : Bd X W n) (S : DSrc X cl pg.att e (evE pg ee) i pp) (hg : TgOk X cl tg js tp g) (hb : QSs X cl W0 io pg body s2)
    (hs : ∀ x, foldedSetIterable e X.env x = pure x := by intro _; rfl) (hio : ∀ j ∈ io, js.contains j = false := by decide) : QS X cl W io pg (.For tg e body [] pos) (.forD js tp false ee s2) := ss_forD false hp B.hc S (pi_keys S.pe) hg hb hs hio
theorem rs_forI {e : Expr} {elts : List Expr} {kk : Nat} {tpos apos cpos : Pos} {body : List Stmt} {js : List Nat} {tp : Bool} {g : TG} {ee : E} {s2 : Ss} {i : Nat} {pp : List PStep} (hp : PassesOwn (model X.prog X.w) X.A X.env X.xe) (B : Bd X W n) (S : DSrc X cl pg.att e (evE pg ee) i pp) (hg : TgOk X cl (.Tuple elts kk tpos) js tp g) (hb : QSs X cl W0 io pg body s2)
    (hbase : attributeBase e "items" X.env (eval e X.env) = eval e X.env := by rfl) (hline : (apos.endLine == cpos.line) = true := by rfl)
    (hs : ∀ x, foldedSetIterable (.Call (.Attribute e "items" apos) [] [] cpos) X.env x = pure x := by intro _; rfl) (hio : ∀ j ∈ io, js.contains j = false := by decide) :
    QS X cl W io pg (.For (.Tuple elts kk tpos) (.Call (.Attribute e "items" apos) [] [] cpos) body [] pos) (.forD js tp true ee s2) := ss_forD true hp B.hc S (pi_items S.pe hbase hline) hg hb hs hio
end
end FB
namespace FB
open PySem L2 PyProof.Rows
/-! ### while -/
section
variable {X : Cx} {cl : Nat → Addr} {W : WX} {io : List Nat} {pos : Pos} {pg : Pg}
theorem ss_whl {c : Expr} {body : List Stmt} {tt : FEnv → Ev Bool} {fb : FEnv → Fl} (n : Nat) (hp : PassesOwn (model X.prog X.w) X.A X.env X.xe) (hc : PT X c (tT X.K cl W tt)) (hb : PSs X body (ttS X cl W io fb)) :
    PS X (.While c body [] pos) (ttS X cl W io fun ρ => whLoop tt fb n ρ) :=
  PS.of (ps_while hp hc hb) fun Dn σ H ⟨ρ, R, M, k, s, hk, p⟩ => by
    refine ⟨fun m σ H => ∃ ρ, Sta X.K cl σ H R ρ M ∧ Kp io k σ ∧ PostS X.K cl R M W io k Dn (whLoop tt fb m ρ), ⟨n, ρ, s, hk, p⟩, ?_⟩
    rintro m σ H ⟨ρ, s, hk, p⟩
    cases m with
    | zero => exact p.elim
    | succ m =>
      have p : PostS X.K cl R M W io k Dn ((tt ρ).fl fun b ρ1 => if b then (match fb ρ1 with
        | .nx ρ' => whLoop tt fb m ρ'
        | .ct ρ' => whLoop tt fb m ρ'
        | .br ρ' => .nx ρ'
        | r => r) else .nx ρ1) := p
      refine ⟨ρ, R, M, s, (PostS.bindF (rep := repB) p hk).mono fun v H1 ⟨x, N, ρ1, hr, s1, p1⟩ => ?_⟩
      obtain ⟨rfl, rfl⟩ := hr
      cases v with
      | false => exact p1 σ H1 s1 hk
      | true =>
        rw [if_pos rfl]
        rw [if_pos rfl] at p1
        refine ⟨fun σ' H' => ∃ ρ, Sta X.K cl σ' H' R ρ M ∧ Kp io k σ' ∧ PostS X.K cl R M W io k Dn (whLoop tt fb m ρ), fun σ' H' h => ⟨m, Nat.lt_succ_self _, h⟩, ρ1, R, M, k, s1, hk, ?_⟩
        cases ef : fb ρ1 with
        | nx ρ3 =>
          rw [ef] at p1
          exact fun σ H s hk => ⟨ρ3, s, hk, p1⟩
        | ct ρ3 =>
          rw [ef] at p1
          exact fun σ H s hk => ⟨ρ3, s, hk, p1⟩
        | br ρ3 =>
          rw [ef] at p1
          exact p1
        | rt d o ρ3 =>
          rw [ef] at p1
          exact p1
        | exc x ρ3 =>
          rw [ef] at p1
          exact p1
        | stuck =>
          rw [ef] at p1
          exact p1
theorem rs_whl {c : Expr} {body : List Stmt} {t : T} {s2 : Ss} (hp : PassesOwn (model X.prog X.w) X.A X.env X.xe) (hc : QT X cl W pg c t) (hb : QSs X cl W io pg body s2) : QS X cl W io pg (.While c body [] pos) (.whl t s2) := ss_whl pg.fuel hp hc hb
end
end FB
namespace FB
open PySem L2 PyProof.Rows
/-! ### borrowed, the answer a new one that hangs on nothing -/
section
variable {K : PySem.W.Frag} {cl : Nat → Addr} {P P' H : Hp}
theorem Rs.flatA : ∀ {v : V} {d : D}, Rs K cl P v d → d.flat = true → Rs K cl P' v d
  | _, _, .non, _ => .non
  | _, _, .bl b, _ => .bl b
  | _, _, .int i, _ => .int i
  | _, _, .str s, _ => .str s
  | _, _, .lst _ _, h => by cases h
  | _, _, .frz _ _, h => by cases h
  | _, _, .tup _ _, h => by cases h
  | _, _, .dic _ _ _, h => by cases h
  | _, _, .obj _ _ _, h => by cases h
theorem Rss.flatA : ∀ {vs : List V} {ds : List D}, Rss K cl P vs ds → ds.all D.flat = true → Rss K cl P' vs ds
  | _, _, .nil, _ => .nil
  | _, _, .cons h r, q => by
    rw [List.all_cons, Bool.and_eq_true] at q
    exact .cons (h.flatA q.1) (Rss.flatA r q.2)
theorem flat_own {d : D} (h : ownD d .sh = true) : d.flat = true := by
  cases d <;> first | rfl | (simp [ownD] at h)
mutual
theorem Ro.anyP : ∀ {v : V} {d : D} {o : O} {f : List Addr}, Ro K cl P H v d o f → ownD d o = true → Ro K cl P' H v d o f
  | _, _, _, _, .sh h, q => .sh (h.flatA (flat_own q))
  | _, _, _, _, .lstR h r, q => .lstR h (r.flatA (by simpa [ownD] using q))
  | _, _, _, _, .tupR h r, q => .tupR h (r.flatA (by simpa [ownD] using q))
  | _, _, _, _, .dicR h l r, q => .dicR h l (r.flatA (by simpa [ownD] using q))
  | _, _, _, _, .objR h l r, q => .objR h l (r.flatA (by simpa [ownD] using q))
  | _, _, _, _, .lstN h r, q => .lstN h (Ros.anyP r (by simpa [ownD] using q))
  | _, _, _, _, .tupN h r, q => .tupN h (Ros.anyP r (by simpa [ownD] using q))
  | _, _, _, _, .objN h l r, q => .objN h l (Ros.anyP r (by simpa [ownD] using q))
theorem Ros.anyP : ∀ {vs : List V} {ds : List D} {os : List O} {f : List Addr}, Ros K cl P H vs ds os f → ownDs ds os = true → Ros K cl P' H vs ds os f
  | _, _, _, _, .nil, _ => .nil
  | _, _, _, _, .cons h r, q => by
    rw [ownDs, Bool.and_eq_true] at q
    exact .cons (Ro.anyP h q.1) (Ros.anyP r q.2)
end
theorem Good.takeOwn {R H1 : Hp} {L L1 : List Item} {v : V} {d : D} {o : O} (g : Good K cl R H L) (g1 : Good K cl H H1 (.val v d o :: L1)) (q : ownD d o = true) : Good K cl R H1 (.val v d o :: L) := by
  obtain ⟨P, f, a, b, c, n, e⟩ := g
  obtain ⟨P1, f1, a1, b1, c1, n1, e1⟩ := g1
  have ex : Ex H H1 := a1.trans b1
  cases e1 with
  | @val _ _ _ fv _ fr h r =>
    have h0 : ∀ z ∈ fv, H z = none := fun z hz => by
      cases w : H z with
      | none => rfl
      | some u =>
        have := a1 z u w
        rw [c1 z (List.mem_append_left _ hz)] at this
        cases this
    refine ⟨P, fv ++ f, a, b.trans ex, fun z hz => ?_, ?_, .val (h.anyP q) (e.mono (Ex.refl P) fun z _ u hu => ex z u hu)⟩
    · rcases List.mem_append.mp hz with hz | hz
      · cases w : P z with
        | none => rfl
        | some u => have := b z u w; rw [h0 z hz] at this; cases this
      · exact c z hz
    · rw [List.nodup_append]
      refine ⟨(List.nodup_append.mp n1).1, n, fun x hx y hy z => ?_⟩
      subst z
      obtain ⟨u, hu⟩ := e.there x hy
      rw [h0 x hx] at hu
      cases hu
end
section
variable {X : Cx} {cl : Nat → Addr} {W : WX} {a b c e o : Expr} {fa fb fc : FEnv → Ev DO} {pos p' p2 : Pos} {x : Str}
theorem se_borL (ha : PE X a (tE X.K cl W fa)) : PE X a (tE X.K cl W fun ρ => (match fa (sharedEnv ρ) with
    | .ok (d, o) _ => if ownD d o then .ok (d, o) ρ else .stuck
    | .exc x _ => .exc x ρ
    | .stuck => .stuck)) :=
  PE.of ha fun σ H Q ⟨ρ, R, M, s, p⟩ => by
    obtain ⟨Le, he, g⟩ := s
    have gs : Good X.K cl H H (Le.map shI) := (Good.tailA (L := M) (g.perm List.perm_append_comm)).shareAll he.nocell
    refine ⟨sharedEnv ρ, H, [], ⟨_, he.shared, by rw [List.append_nil]; exact gs⟩, ?_⟩
    dsimp only at p
    cases ef : fa (sharedEnv ρ) with
    | ok x ρ1 =>
      obtain ⟨d, o⟩ := x
      rw [ef] at p
      dsimp only at p
      intro b H1 N hr s1
      subst hr
      by_cases hf : ownD d o = true
      · rw [if_pos hf] at p
        obtain ⟨Le1, he1, g1⟩ := Sta.front (N := [.val b d o]) s1
        exact p b H1 _ rfl ⟨Le, he, (g.takeOwn g1 hf).perm List.perm_middle.symm⟩
      · rw [if_neg hf] at p
        exact p.elim
    | exc x ρ1 =>
      rw [ef] at p
      intro H1 dx s1 xo
      obtain ⟨Le1, he1, g1⟩ := s1
      exact p H1 dx ⟨Le, he, g.heap g1.raw⟩ xo
    | stuck =>
      rw [ef] at p
      exact p.elim
theorem kit_two {K : PySem.W.Frag} {t u1 u2 : Value} {a b : Bool} (h1 : PySem.W.kitOne K t u1 = some a) (h2 : PySem.W.kitOne K t u2 = some b) : PySem.W.kitAny K t [u1, u2] = some (a || b) := by
  unfold PySem.W.kitAny
  rw [h1]
  cases a with
  | true => rfl
  | false =>
    show PySem.W.kitAny K t [u2] = some b
    unfold PySem.W.kitAny
    rw [h2]
    cases b <;> rfl
/-- isinstance(x, (a, b)) -/
theorem se_isi2 {isk : Kd → Ty → Option Bool} {t1 t2 : Ty} {c1 c2 : Expr} {cv1 cv2 : V} {u1 u2 : Value} {kk : Nat} (ok1 : IsiOk X.K cl isk t1 cv1 u1) (ok2 : IsiOk X.K cl isk t2 cv2 u2) (hg : Gl X x) (hm : X.mg x = none) (hv : bootBuiltins x = some (.builtin "isinstance")) (ha : PE X a (tE X.K cl W fa)) (hc1 : PE X c1 (tC cv1)) (hc2 : PE X c2 (tC cv2)) (hn : x ≠ "__name__") (hdb : (x == ("__debug__" : Str)) = false)
    (hs1 : starEach [c1, c2] X.env = (false, eval c1 X.env) :: starEach [c2] X.env) (hs2 : starEach [c2] X.env = (false, eval c2 X.env) :: starEach [] X.env)
    (he : starEach [a, .Tuple [c1, c2] kk p2] X.env = (false, eval a X.env) :: starEach [.Tuple [c1, c2] kk p2] X.env) (he2 : starEach [.Tuple [c1, c2] kk p2] X.env = (false, eval (.Tuple [c1, c2] kk p2) X.env) :: starEach [] X.env) (hpl : (backTo pos (starEach [.Tuple [c1, c2] kk p2] X.env)).any (·.1) = false) :
    PE X (.Call (.Name x p') [a, .Tuple [c1, c2] kk p2] [] pos) (tE X.K cl W fun ρ => (fa ρ).bind fun x ρ1 => opt (isk2 isk (kdOf x.1) t1 t2) ρ1 fun b => .ok (.bl b, .sh) ρ1) :=
  PE.of (pe_callB call_isiT hg hm hv (pa_cons ha (pa_cons (pe_tup (pa_cons hc1 (pa_cons hc2 pa_nil hs2) hs1)) pa_nil he2) he) hn hdb he hpl) fun σ H Q ⟨ρ, R, M, s, p⟩ =>
    ⟨ρ, R, M, s, (Post.bindF [] p).mono fun v H1 ⟨y, N, ρ1, hr, s1, p1⟩ => by
      subst hr
      obtain ⟨b, hb, p2⟩ := p1.opt
      obtain ⟨Le, he, g⟩ := Sta.front (N := [.val v y.1 y.2]) s1
      obtain ⟨P, ex, h1⟩ := g.share.fact1
      have hb' : ∃ b1 b2, isk (kdOf y.1) t1 = some b1 ∧ isk (kdOf y.1) t2 = some b2 ∧ b = (b1 || b2) := by
        unfold isk2 at hb
        split at hb
        · rename_i b1 b2 e1 e2
          cases hb
          exact ⟨b1, b2, e1, e2, rfl⟩
        · cases hb
      obtain ⟨b1, b2, e1, e2, rfl⟩ := hb'
      obtain ⟨k1, k2⟩ := ok1.ok _ _ e1
      obtain ⟨k3, k4⟩ := ok2.ok _ _ e2
      refine ⟨by show 2 ≤ sizeLine; decide, fun T hT => ?_⟩
      have gT := g.alloc (u := .tup [cv1, cv2]) hT
      have exT : Ex P (upd H1 T (.tup [cv1, cv2])) := ex.trans (Ex.new hT)
      have g3 : Good X.K cl R (upd H1 T (.tup [cv1, cv2])) (Le ++ M) := gT.tail.tail
      exact ⟨v, T, [cv1, cv2], kdV cl (kdOf y.1), [u1, u2], b1 || b2, rfl, upd_same, .cons ok1.cv (.cons ok2.cv .nil), tyx_of exT h1 k2, kit_two k1 k3, p2 _ _ _ rfl (Sta.ofFront (N := [.val (.bl (b1 || b2)) (.bl (b1 || b2)) .sh]) he (g3.flat (.bl _)))⟩⟩
variable {pg : Pg} {ea : E}
theorem re_borL (ha : QE X cl W pg a ea) : QE X cl W pg a (.borL ea) := se_borL ha
theorem re_isi2 {t1 t2 : Ty} {c1 c2 : Expr} {cv1 cv2 : V} {u1 u2 : Value} {kk : Nat} (ok1 : IsiOk X.K cl pg.isk t1 cv1 u1) (ok2 : IsiOk X.K cl pg.isk t2 cv2 u2) (hm : X.mg x = none) (ha : QE X cl W pg a ea) (hc1 : PE X c1 (tC cv1)) (hc2 : PE X c2 (tC cv2)) (hv : bootBuiltins x = some (.builtin "isinstance") := by decide +kernel) (hg : Gl X x := by rfl) (hn : x ≠ "__name__" := by decide) (hdb : (x == ("__debug__" : Str)) = false := by rfl)
    (hs1 : starEach [c1, c2] X.env = (false, eval c1 X.env) :: starEach [c2] X.env := by rfl) (hs2 : starEach [c2] X.env = (false, eval c2 X.env) :: starEach [] X.env := by rfl)
    (he : starEach [a, .Tuple [c1, c2] kk p2] X.env = (false, eval a X.env) :: starEach [.Tuple [c1, c2] kk p2] X.env := by rfl) (he2 : starEach [.Tuple [c1, c2] kk p2] X.env = (false, eval (.Tuple [c1, c2] kk p2) X.env) :: starEach [] X.env := by rfl) (hpl : (backTo pos (starEach [.Tuple [c1, c2] kk p2] X.env)).any (·.1) = false := by rfl) :
    QE X cl W pg (.Call (.Name x p') [a, .Tuple [c1, c2] kk p2] [] pos) (.isi2 ea t1 t2) := se_isi2 ok1 ok2 hg hm hv ha hc1 hc2 hn hdb hs1 hs2 he he2 hpl
end
end FB
namespace FB
open PySem L2 PyProof.Rows
/-! ### borrowed, the answer one that shares no list and no dict -/
section
variable {K : PySem.W.Frag} {cl : Nat → Addr} {P P' H H' R : Hp}
def notLD : HO → Prop
  | .lst _ => False
  | .dK _ => False
  | .frz _ (.lst _) => False
  | .frz _ (.dK _) => False
  | _ => True
def isLD : HO → Prop
  | .lst _ => True
  | .dK _ => True
  | _ => False
def HoldsAt (P P' : Hp) : Prop := ∀ a u, P a = some u → ¬ isLD u → P' a = some u
theorem HoldsAt.rdT {a : Addr} {xs : List V} (k : HoldsAt P P') (h : SqT K P a xs) : SqT K P' a xs := h.imp (fun h => by
  rcases h with h | ⟨o, h⟩
  · exact .inl (k _ _ h (by simp [isLD]))
  · exact .inr ⟨o, k _ _ h (by simp [isLD])⟩) id
mutual
theorem Rs.kept (k : HoldsAt P P') : ∀ {v : V} {d : D}, Rs K cl P v d → keptK d = true → Rs K cl P' v d
  | _, _, .non, _ => .non
  | _, _, .bl b, _ => .bl b
  | _, _, .int i, _ => .int i
  | _, _, .str s, _ => .str s
  | _, _, .lst _ _, h => by simp [keptK] at h
  | _, _, .frz _ _, h => by simp [keptK] at h
  | _, _, .tup h r, q => .tup (k.rdT h) (Rss.kept k r (by simpa [keptK] using q))
  | _, _, .dic _ _ _, h => by simp [keptK] at h
  | _, _, .obj h l r, q => .obj (k _ _ h (by simp [isLD])) l (Rss.kept k r (by simpa [keptK] using q))
theorem Rss.kept (k : HoldsAt P P') : ∀ {vs : List V} {ds : List D}, Rss K cl P vs ds → keptKs ds = true → Rss K cl P' vs ds
  | _, _, .nil, _ => .nil
  | _, _, .cons h r, q => by
    rw [keptKs, Bool.and_eq_true] at q
    exact .cons (Rs.kept k h q.1) (Rss.kept k r q.2)
end
mutual
theorem Ro.leaf (k : HoldsAt P P') : ∀ {v : V} {d : D} {o : O} {f : List Addr}, Ro K cl P H v d o f → leafK d o = true → Ro K cl P' H v d o f
  | _, _, _, _, .sh h, q => .sh (h.kept k (by cases ‹D› <;> simpa [leafK] using q))
  | _, _, _, _, .lstR h r, q => .lstR h (r.kept k (by simpa [leafK] using q))
  | _, _, _, _, .tupR h r, q => .tupR h (r.kept k (by simpa [leafK] using q))
  | _, _, _, _, .dicR h l r, q => .dicR h l (r.kept k (by simpa [leafK] using q))
  | _, _, _, _, .objR h l r, q => .objR h l (r.kept k (by simpa [leafK] using q))
  | _, _, _, _, .lstN h r, q => .lstN h (Ros.leaf k r (by simpa [leafK] using q))
  | _, _, _, _, .tupN h r, q => .tupN h (Ros.leaf k r (by simpa [leafK] using q))
  | _, _, _, _, .objN h l r, q => .objN h l (Ros.leaf k r (by simpa [leafK] using q))
theorem Ros.leaf (k : HoldsAt P P') : ∀ {vs : List V} {ds : List D} {os : List O} {f : List Addr}, Ros K cl P H vs ds os f → leafKs ds os = true → Ros K cl P' H vs ds os f
  | _, _, _, _, .nil, _ => .nil
  | _, _, _, _, .cons h r, q => by
    rw [leafKs, Bool.and_eq_true] at q
    exact .cons (Ro.leaf k h q.1) (Ros.leaf k r q.2)
end
/-! the cells of what is held are lists and dicts -/
mutual
theorem Ro.heldL : ∀ {v : V} {d : D} {o : O} {f : List Addr}, Ro K cl P H v d o f → heldL d o = true → ∀ b ∈ f, ∃ u, H b = some u ∧ isLD u
  | _, _, _, _, .sh h, q, b, hb => nomatch hb
  | _, _, _, _, .lstR h r, q, b, hb => by rcases List.mem_cons.mp hb with rfl | hb; exact ⟨_, h, trivial⟩; exact nomatch hb
  | _, _, _, _, .tupR h r, q, b, hb => by simp [FB.heldL] at q
  | _, _, _, _, .dicR h l r, q, b, hb => by rcases List.mem_cons.mp hb with rfl | hb; exact ⟨_, h, trivial⟩; exact nomatch hb
  | _, _, _, _, .objR h l r, q, b, hb => by simp [FB.heldL] at q
  | _, _, _, _, .lstN h r, q, b, hb => by
    rcases List.mem_cons.mp hb with rfl | hb
    · exact ⟨_, h, trivial⟩
    · exact Ros.heldL r (by simpa [FB.heldL] using q) b hb
  | _, _, _, _, .tupN h r, q, b, hb => by simp [FB.heldL] at q
  | _, _, _, _, .objN h l r, q, b, hb => by simp [FB.heldL] at q
theorem Ros.heldL : ∀ {vs : List V} {ds : List D} {os : List O} {f : List Addr}, Ros K cl P H vs ds os f → heldLs ds os = true → ∀ b ∈ f, ∃ u, H b = some u ∧ isLD u
  | _, _, _, _, .nil, _, b, hb => nomatch hb
  | _, _, _, _, .cons h r, q, b, hb => by
    rw [heldLs, Bool.and_eq_true] at q
    rcases List.mem_append.mp hb with hb | hb
    · exact Ro.heldL h q.1 b hb
    · exact Ros.heldL r q.2 b hb
end
theorem Envs.heldL : ∀ {σ : L2.St} {ρ : FEnv} {L : List Item} {f : List Addr}, Envs σ ρ L → envL ρ = true → Its K cl P H L f → ∀ b ∈ f, ∃ u, H b = some u ∧ isLD u
  | _, _, _, _, .nil, _, .nil, b, hb => nomatch hb
  | _, _, _, _, .no h, q, s, b, hb => Envs.heldL h (by simpa [envL] using q) s b hb
  | _, _, _, _, .yes h, q, .val hv s, b, hb => by
    rw [envL, Bool.and_eq_true] at q
    rcases List.mem_append.mp hb with hb | hb
    · exact hv.heldL q.1 b hb
    · exact Envs.heldL h q.2 s b hb
/-- what stands at addresses, cell by cell -/
def cellsOf (H : Hp) : List Addr → List Item
  | [] => []
  | a :: f => (match H a with
    | some u => [.cell a u]
    | none => []) ++ cellsOf H f
theorem cellsOf_its : ∀ {f : List Addr}, (∀ a ∈ f, ∃ u, H a = some u) → (∀ a ∈ f, ∀ w, H a = some w → nxB w = true) → Its K cl P H (cellsOf H f) f
  | [], _, _ => .nil
  | a :: f, k, nx => by
    obtain ⟨u, hu⟩ := k a List.mem_cons_self
    have e : cellsOf H (a :: f) = .cell a u :: cellsOf H f := by simp [cellsOf, hu]
    rw [e]
    exact .cell hu (nx a List.mem_cons_self u hu) (cellsOf_its (fun b hb => k b (List.mem_cons_of_mem _ hb)) fun b hb => nx b (List.mem_cons_of_mem _ hb))
theorem cellsOf_inv : ∀ {f g : List Addr}, (∀ a ∈ f, ∃ u, H a = some u) → Its K cl P H' (cellsOf H f) g → g = f ∧ ∀ a ∈ f, H' a = H a
  | [], g, _, s => by
    cases s
    exact ⟨rfl, fun a h => nomatch h⟩
  | a :: f, g, k, s => by
    obtain ⟨u, hu⟩ := k a List.mem_cons_self
    have e : cellsOf H (a :: f) = .cell a u :: cellsOf H f := by simp [cellsOf, hu]
    rw [e] at s
    cases s with
    | cell h _ r =>
      obtain ⟨rfl, q⟩ := cellsOf_inv (fun b hb => k b (List.mem_cons_of_mem _ hb)) r
      refine ⟨rfl, fun b hb => ?_⟩
      rcases List.mem_cons.mp hb with rfl | hb
      · rw [h, hu]
      · exact q b hb
end
section
variable {X : Cx} {cl : Nat → Addr} {W : WX} {a b c e o : Expr} {fa fb fc : FEnv → Ev DO} {pos p' p2 : Pos} {x : Str}
theorem se_borK (ha : PE X a (tE X.K cl W fa)) : PE X a (tE X.K cl W fun ρ => (match fa (sharedEnv ρ) with
    | .ok (d, o) _ => if envL ρ && leafK d o then .ok (d, o) ρ else .stuck
    | .exc x _ => .exc x ρ
    | .stuck => .stuck)) :=
  PE.of ha fun σ H Q ⟨ρ, R, M, s, p⟩ => by
    obtain ⟨Le, he, P, f, hRP, hPH, hf, hn, its⟩ := s
    obtain ⟨fe, fm, rfl, ie, im⟩ := its.split
    have nd := List.nodup_append.mp hn
    have ce : ∀ z ∈ fe, P z = none := fun z hz => hf z (List.mem_append_left _ hz)
    have cm : ∀ z ∈ fm, P z = none := fun z hz => hf z (List.mem_append_right _ hz)
    have dis : ∀ z ∈ fe, z ∉ fm := fun z h1 h2 => nd.2.2 z h1 z h2 rfl
    have gs : Good X.K cl (ext P H fe) H (Le.map shI ++ cellsOf H fm) := by
      refine ⟨ext P H fe, [] ++ fm, Ex.refl _, ext_le hPH, fun z hz => ?_, nd.2.1, (ie.shareAll (ext_ex ce) (fun z hz => ext_in hz) he.nocell).append (cellsOf_its im.there im.nxs)⟩
      have hz : z ∈ fm := hz
      rw [ext_out fun h => dis z h hz]
      exact cm z hz
    refine ⟨sharedEnv ρ, ext P H fe, cellsOf H fm, ⟨_, he.shared, gs⟩, ?_⟩
    dsimp only at p
    have keep : ∀ {H1 : Hp} {P1 : Hp}, Ex (ext P H fe) P1 → Ex P1 H1 → (∀ z ∈ fm, H1 z = H z) → ∀ {P' : Hp}, Ex P P' → Its X.K cl P' H1 (Le ++ M) (fe ++ fm) := fun {H1 P1} x1 x2 hm {P'} xp => by
      refine (ie.append im).mono xp fun z hz u hu => ?_
      rcases List.mem_append.mp hz with hz | hz
      · exact x2 z u (x1 z u (by rw [ext_in hz]; exact hu))
      · rw [hm z hz]; exact hu
    cases ef : fa (sharedEnv ρ) with
    | ok x ρ1 =>
      obtain ⟨d, o⟩ := x
      rw [ef] at p
      dsimp only at p
      intro b H1 N hr s1
      subst hr
      by_cases hq : (envL ρ && leafK d o) = true
      · rw [if_pos hq] at p
        rw [Bool.and_eq_true] at hq
        obtain ⟨Le1, he1, g1⟩ := Sta.front (N := [.val b d o]) s1
        have g2 : Good X.K cl (ext P H fe) H1 (.val b d o :: cellsOf H fm) := by
          have g3 := g1.perm (M := Le1 ++ (.val b d o :: cellsOf H fm)) (by show (Item.val b d o :: (Le1 ++ cellsOf H fm)).Perm _; exact List.perm_middle.symm)
          exact g3.tailA
        obtain ⟨P1, f1, x1, x2, n1, nd1, its1⟩ := g2
        cases its1 with
        | @val _ _ _ fv f2 _ hv r2 =>
          obtain ⟨rfl, hm⟩ := cellsOf_inv im.there r2
          have nd2 := List.nodup_append.mp nd1
          have inP1 : ∀ z ∈ fe, P1 z = H z := fun z hz => by
            obtain ⟨u, hu⟩ := ie.there z hz
            rw [hu]
            exact x1 z u (by rw [ext_in hz]; exact hu)
          have nfe : ∀ z ∈ fe, z ∉ fv := fun z hz h => by
            have := n1 z (List.mem_append_left _ h)
            rw [inP1 z hz] at this
            obtain ⟨u, hu⟩ := ie.there z hz
            rw [hu] at this
            cases this
          refine p b H1 _ rfl ⟨Le, he, ?_⟩
          refine Good.perm (L := .val b d o :: (Le ++ M)) ?_ List.perm_middle.symm
          have xPP : Ex P (fun z => if z ∈ fe then none else P1 z) := fun z u hu => by
            have hne : z ∉ fe := fun h => by rw [ce z h] at hu; cases hu
            show (if z ∈ fe then none else P1 z) = some u
            rw [if_neg hne]
            exact x1 z u (by rw [ext_out hne]; exact hu)
          refine ⟨fun z => if z ∈ fe then none else P1 z, fv ++ (fe ++ _), hRP.trans xPP, fun z u hu => ?_, fun z hz => ?_, ?_, .val (hv.leaf (fun z u hu hnl => ?_) hq.2) (keep x1 x2 hm xPP)⟩
          · have hu : (if z ∈ fe then none else P1 z) = some u := hu
            by_cases hz : z ∈ fe
            · rw [if_pos hz] at hu; cases hu
            · rw [if_neg hz] at hu; exact x2 z u hu
          · show (if z ∈ fe then none else P1 z) = none
            by_cases hz2 : z ∈ fe
            · rw [if_pos hz2]
            · rw [if_neg hz2]
              rcases List.mem_append.mp hz with hz | hz
              · exact n1 z (List.mem_append_left _ hz)
              · rcases List.mem_append.mp hz with hz | hz
                · exact absurd hz hz2
                · exact n1 z (List.mem_append_right _ hz)
          · rw [List.nodup_append]
            refine ⟨nd2.1, hn, fun y hy z hz => ?_⟩
            rcases List.mem_append.mp hz with hz | hz
            · exact fun e => nfe z hz (by rw [← e]; exact hy)
            · exact nd2.2.2 y hy z hz
          · show (if z ∈ fe then none else P1 z) = some u
            by_cases hz : z ∈ fe
            · obtain ⟨w, hw, hl⟩ := he.heldL hq.1 ie z hz
              rw [inP1 z hz, hw] at hu
              cases hu
              exact absurd hl hnl
            · rw [if_neg hz]; exact hu
      · rw [if_neg hq] at p
        exact p.elim
    | exc x ρ1 =>
      rw [ef] at p
      intro H1 dx s1 xo
      obtain ⟨Le1, he1, g1⟩ := s1
      obtain ⟨P1, f1, x1, x2, n1, nd1, its1⟩ := g1.tailA
      obtain ⟨rfl, hm⟩ := cellsOf_inv im.there its1
      exact p H1 dx ⟨Le, he, P, fe ++ f1, hRP, (ext_ex ce).trans (x1.trans x2), hf, hn, keep x1 x2 hm (Ex.refl P)⟩ xo
    | stuck =>
      rw [ef] at p
      exact p.elim
/-! a method that changes what is given, where nobody else has it -/
variable {fs : FEnv → Ev (List DO)} {fo : FEnv → Ev DO} {hs : List (Option Nat)} {m : Mu} {T id : String} {r : V → List V → Hp → VK → Prop} {name : Str} {es : List Expr} {apos cpos : Pos}
def mutTF (m : Mu) (fo : FEnv → Ev DO) (fs : FEnv → Ev (List DO)) : FEnv → Ev DO := fun ρ => (fo ρ).bind fun x ρ1 => (match x.2 with
    | .root => if tyM m x.1 then (fs ρ1).bind fun xs ρ2 => opt (muD m x.1 (xs.map (·.1))) ρ2 fun r => .ok (r.1, .sh) ρ2 else .stuck
    | _ => .stuck)
theorem mutT_read {σ : L2.St} {H : Hp} {Q : VK} (hT : (T = "list" ∧ m ≠ .clearD) ∨ (T = "dict" ∧ m = .clearD)) (mt : MuT X cl m T r) (h : Rd1 X.K cl repV W (mutTF m fo fs) σ H Q) : tBM X.K T r (tE X.K cl W fo) (tA X.K cl W hs fs) σ H Q := by
  obtain ⟨ρ, R, M, s, p⟩ := h
  refine ⟨ρ, R, M, s, (Post.bindF [] p).mono fun v H1 ⟨x, N, ρ1, hr, s1, p1⟩ => ?_⟩
  subst hr
  obtain ⟨d, o⟩ := x
  cases o with
  | sh => exact p1.elim
  | node os => exact p1.elim
  | root =>
    dsimp only at p1
    split at p1
    · rename_i ht
      have hty := tyM_ty ht hT
      obtain ⟨Le, he, g⟩ := Sta.front (N := [.val v d .root]) s1
      refine ⟨tyV_root g hty, ρ1, R, _, s1, (Post.bindF [.val v d .root] p1).mono fun ws H2 ⟨xs, N2, ρ2, ⟨hl, hl2, hN, hk⟩, s2, p2⟩ => ?_⟩
      subst hN
      obtain ⟨⟨z, d2⟩, hz, p3⟩ := p2.opt
      obtain ⟨Le2, he2, g3⟩ := Sta.front (N := valsO ws xs) s2
      have g4 := g3.shareMany hl
      have g5 : Good X.K cl R H2 (.val v d .root :: (shs ws (xs.map (·.1)) ++ (Le2 ++ M))) := by
        refine g4.perm ?_
        have p1 : (Le2 ++ (Item.val v d .root :: M)).Perm (.val v d .root :: (Le2 ++ M)) := List.perm_middle
        exact (p1.append_left _).trans List.perm_middle
      exact mt hty (by rw [hl, List.length_map]) g5 hz fun v' H' g6 => p3 v' H' _ rfl (Sta.ofFront (N := [.val v' z .sh]) he2 (g6.perm (.swap _ _ _)).tail)
    · exact p1.elim
theorem mutL_read {σ : L2.St} {H : Hp} {Q : VK} {att : Nat → Str → Bool} {i : Nat} (hT : (T = "list" ∧ m ≠ .clearD) ∨ (T = "dict" ∧ m = .clearD)) (mt : MuT X cl m T r) (h : Rd1 X.K cl repV W (mutLF i m fs) σ H Q) : tBM X.K T r (tP X.K cl att i []) (tA X.K cl W hs fs) σ H Q := by
  obtain ⟨ρ, R, M, s, q⟩ := h
  unfold mutLF at q
  split at q
  · rename_i d e
    split at q
    · rename_i ht
      obtain ⟨v, hv, s1⟩ := s.take (d := d) (o := .root) e
      obtain ⟨Le, he, g⟩ := Sta.front (N := [.val v d .root]) s1
      have hty := tyM_ty ht hT
      refine ⟨v, v, hv, rfl, tyV_root g hty, ?_⟩
      refine ⟨ρ, R, M, s, (Post.bindF [] q).mono fun ws H2 ⟨xs, N2, ρ1, ⟨hl, hl2, hN, hk⟩, s3, q2⟩ => ?_⟩
      subst hN
      split at q2
      · rename_i d1 e1
        split at q2
        · rename_i ht1
          have hty1 := tyM_ty ht1 hT
          obtain ⟨⟨z, d2⟩, hz, q3⟩ := q2.opt
          obtain ⟨v2, hv2, s4⟩ := s3.take (d := d1) (o := .root) e1
          have hvv : v2 = v := by
            rw [hv] at hv2
            cases hv2
            rfl
          subst hvv
          have e0 : (ρ1.set i none)[i]? = some none := by
            have hl : i < ρ1.length := (List.getElem?_eq_some_iff.mp e1).1
            rw [List.getElem?_set_self hl]
          obtain ⟨Le2, he2, g3⟩ := Sta.front (N := .val v2 d1 .root :: valsO ws xs) s4
          have g4 : Good X.K cl R H2 (valsO ws xs ++ (.val v2 d1 .root :: (Le2 ++ M))) := g3.perm List.perm_middle.symm
          have g5 := g4.shareMany hl
          have g6 : Good X.K cl R H2 (.val v2 d1 .root :: (shs ws (xs.map (·.1)) ++ (Le2 ++ M))) := g5.perm List.perm_middle
          refine mt hty1 (by rw [hl, List.length_map]) g6 hz fun v' H' g7 => q3 v' H' _ rfl ?_
          have s5 : Sta X.K cl σ H' R (ρ1.set i none) (.val v2 d2 .root :: ([.val v' z .sh] ++ M)) := Sta.ofFront (N := [.val v2 d2 .root, .val v' z .sh]) he2 (g7.perm (.swap _ _ _))
          have s6 := s5.give e0 hv
          rw [List.set_set] at s6
          exact s6
        · exact q2.elim
      · exact q2.elim
    · exact q.elim
  · exact q.elim
variable {pg : Pg} {ea eo : E} {ees : Es}
/-- a value, held by nobody from here on -/
theorem se_shr {e : Expr} {fe : FEnv → Ev DO} (h : PE X e (tE X.K cl W fe)) : PE X e (tE X.K cl W fun ρ => (fe ρ).bind fun x ρ1 => .ok (x.1, .sh) ρ1) :=
  PE.of h fun σ H Q ⟨ρ, R, M, s, p⟩ => ⟨ρ, R, M, s, (Post.bindF [] p).mono fun v H1 ⟨x, N, ρ1, hr, s1, p1⟩ => by
    subst hr
    obtain ⟨Le, he, g⟩ := Sta.front (N := [.val v x.1 x.2]) s1
    exact p1 v H1 [.val v x.1 .sh] rfl (Sta.ofFront (N := [.val v x.1 .sh]) he g.share)⟩
theorem re_shr (ha : QE X cl W pg a ea) : QE X cl W pg a (.shr ea) := se_shr ha
theorem re_borK (ha : QE X cl W pg a ea) : QE X cl W pg a (.borK ea) := se_borK ha
theorem re_mutT (pa : PlainAttrs T) (slot : Slot T name id) (hty : typeOf (.builtin id) = pure (.type "method_descriptor")) (hm : MtR X id r) (hT : (T = "list" ∧ m ≠ .clearD) ∨ (T = "dict" ∧ m = .clearD)) (mt : MuT X cl m T r) (ho : QE X cl W pg o eo) (ha : QA X cl W pg (e :: es) ees)
    (hbase : attributeBase o name X.env (eval o X.env) = eval o X.env := by rfl)
    (hfew : ((backTo cpos (starEach (e :: es) X.env)).all (fun x => !x.1) && (backToKw cpos (keywordEach [] X.env)).all (fun x => x.1.isSome)
      && decide ((e :: es).length + ([] : List Keyword).length + (if ([] : List Keyword).isEmpty then 0 else 1) < 30)) = true := by rfl)
    (hline : (apos.endLine == cpos.line) = true := by rfl) (hst : starEach (e :: es) X.env = (false, eval e X.env) :: starEach es X.env := by rfl) (hplain : (backTo cpos (starEach es X.env)).any (·.1) = false := by rfl) :
    QE X cl W pg (.Call (.Attribute o name apos) (e :: es) [] cpos) (.mutT m eo ees) :=
  PE.of (pe_bm pa slot hty hm ho ha hbase hfew hline hst hplain) fun σ H Q h => mutT_read hT mt h
theorem re_mutL {i : Nat} (pa : PlainAttrs T) (slot : Slot T name id) (hty : typeOf (.builtin id) = pure (.type "method_descriptor")) (hm : MtR X id r) (hT : (T = "list" ∧ m ≠ .clearD) ∨ (T = "dict" ∧ m = .clearD)) (mt : MuT X cl m T r) (ho : PE X o (tP X.K cl pg.att i [])) (ha : QA X cl W pg (e :: es) ees)
    (hbase : attributeBase o name X.env (eval o X.env) = eval o X.env := by rfl)
    (hfew : ((backTo cpos (starEach (e :: es) X.env)).all (fun x => !x.1) && (backToKw cpos (keywordEach [] X.env)).all (fun x => x.1.isSome)
      && decide ((e :: es).length + ([] : List Keyword).length + (if ([] : List Keyword).isEmpty then 0 else 1) < 30)) = true := by rfl)
    (hline : (apos.endLine == cpos.line) = true := by rfl) (hst : starEach (e :: es) X.env = (false, eval e X.env) :: starEach es X.env := by rfl) (hplain : (backTo cpos (starEach es X.env)).any (·.1) = false := by rfl) :
    QE X cl W pg (.Call (.Attribute o name apos) (e :: es) [] cpos) (.mutL i m ees) :=
  PE.of (pe_bm pa slot hty hm ho ha hbase hfew hline hst hplain) fun σ H Q h => mutL_read hT mt h
theorem re_mutT0 (pa : PlainAttrs T) (slot : Slot T name id) (hty : typeOf (.builtin id) = pure (.type "method_descriptor")) (hm : MtR X id r) (hT : (T = "list" ∧ m ≠ .clearD) ∨ (T = "dict" ∧ m = .clearD)) (mt : MuT X cl m T r) (ho : QE X cl W pg o eo)
    (hbase : attributeBase o name X.env (eval o X.env) = eval o X.env := by rfl) (hline : (apos.endLine == cpos.line) = true := by rfl) :
    QE X cl W pg (.Call (.Attribute o name apos) [] [] cpos) (.mutT m eo .nil) :=
  PE.of (pe_bm0 pa slot hty hm ho hbase hline) fun σ H Q h => by
    obtain ⟨ρ, R, M, s, p⟩ := mutT_read (hs := []) (fs := fun ρ => .ok [] ρ) hT mt h
    exact ⟨ρ, R, M, s, p.mono fun v H1 ⟨ty, ρ1, R1, M1, s1, q⟩ => ⟨ty, q [] H1 _ ⟨rfl, rfl, rfl, fun p j v h => by simp at h⟩ s1⟩⟩
theorem rs_brk {io : List Nat} : QS X cl W io pg (.Break pos) .brk := ss_brk
theorem rs_cont {io : List Nat} : QS X cl W io pg (.Continue pos) .cont := ss_cont
/-! enumerate -/
theorem ite_ok {K : PySem.W.Frag} {P : Hp} {p : Addr} {vs : List V} {ds : List D} (hp : SqL K P p vs) (r : Rss K cl P vs ds) : ItOk K cl P (Ite K p) ((List.range ds.length).zip ds |>.map fun z => .tup [.int (0 + (z.1 : Int)), z.2]) := fun H ex => by
  refine ⟨⟨vs, ex_l ex hp, ?_⟩, fun i d hd => ?_⟩
  · rw [List.length_map, List.length_zip, List.length_range, r.length]
    omega
  · rw [List.getElem?_map] at hd
    cases hz : ((List.range ds.length).zip ds)[i]? with
    | none => rw [hz] at hd; cases hd
    | some z =>
      rw [hz] at hd
      cases hd
      obtain ⟨d1, d2⟩ := z
      obtain ⟨h1, h2⟩ := List.getElem?_zip_eq_some.mp hz
      have h1 : d1 = i := by
        rw [List.getElem?_range (by have := (List.getElem?_eq_some_iff.mp h2).1; omega)] at h1
        exact (Option.some.inj h1).symm
      subst h1
      obtain ⟨v, hv, q1⟩ := rss_get r h2
      refine ⟨⟨vs, v, ex_l ex hp, hv⟩, fun x H' ⟨T, x1, e1, hT, e2, y1⟩ L g => ?_⟩
      have hx1 := y1 vs (ex_l ex hp)
      rw [hv] at hx1
      cases hx1
      subst e1 e2
      have e0 : (0 + (d1 : Int)) = (d1 : Int) := by omega
      have g2 : Good K cl P H (shs [.int (d1 : Int), v] [.int (0 + (d1 : Int)), d2] ++ L) := by
        rw [e0]
        exact g.rssP (.cons (.int _) (.cons q1 .nil))
      exact ((g2.alloc hT).packTup rfl).share
theorem ri_enum {p pos tpos : Pos} {elts : List Expr} {kk : Nat} (hm : X.mg "enumerate" = none) (ha : QE X cl W pg a ea) (hg : Gl X "enumerate" := by rfl)
    (hst : starEach [a] X.env = [(false, eval a X.env)] := by rfl) :
    QI X cl W pg (.Tuple elts kk tpos) (.Call (.Name "enumerate" p) [a] [] pos) (.enum ea 0) :=
  PI.of (pi_enum hg hm (pa_cons ha pa_nil hst) hst) fun σ H Rk ⟨ρ, R, M, s, p⟩ => ⟨ρ, R, M, s, (PostI.bindF [] p).mono fun v H1 ⟨x, N, ρ1, hr, s1, p1⟩ => by
    subst hr
    obtain ⟨d, o⟩ := x
    have s3 : Sta X.K cl σ H1 R ρ1 ([.val v d .sh] ++ M) := Sta.item (N := [.val v d o]) (N' := [.val v d .sh]) s1 fun L g => g.share
    obtain ⟨P1, ex1, h1, s4⟩ := s3.grow
    have exH : Ex P1 H1 := s4.raw
    dsimp only at p1
    cases h1 with
    | @lst q ws e2 e r2 => exact ⟨q, ws, rfl, SqL.of (exH _ _ e), p1 _ H1 P1 ex1 (ite_ok (SqL.of e) r2) s4.dropL⟩
    | _ => exact p1.elim⟩
/-! {k: e, ..} -/
def repP (keys : List Key) : List (V × V) → List DO → List Item → Prop := fun ps xs N => ∃ vs, ps = (keys.zip vs).map (fun kv => (kV kv.1, kv.2)) ∧ vs.length = keys.length ∧ vs.length = xs.length ∧ N = valsO vs xs
def DP (X : Cx) (cl : Nat → Addr) (W : WX) (pos : Pos) (keys : List Key) (ks : List (Option Expr)) (vs : List Expr) (fs : FEnv → Ev (List DO)) : Prop :=
  ∃ trs, PPs X pos ks vs trs ∧ ks.length = keys.length ∧ ks.length = vs.length ∧ ks.all (·.isSome) = true ∧ ∀ σ H Q, Rd1 X.K cl (repP keys) W fs σ H Q → tPairs trs σ H Q
theorem dp_nil : DP X cl W pos [] [] [] fun ρ => .ok [] ρ :=
  ⟨[], pps_nil, rfl, rfl, rfl, fun σ H Q ⟨ρ, R, M, s, p⟩ => p [] H [] ⟨[], rfl, rfl, rfl, rfl⟩ s⟩
theorem dp_cons {k : Key} {keys : List Key} {ks : List (Option Expr)} {vs : List Expr} {kx vx : Expr} (hk : PE X kx (tC (kV k))) (hv : PE X vx (tE X.K cl W fa)) (h : DP X cl W pos keys ks vs fs) :
    DP X cl W pos (k :: keys) (some kx :: ks) (vx :: vs) fun ρ => (fa ρ).bind fun x ρ1 => (fs ρ1).bind fun xs ρ2 => .ok (x :: xs) ρ2 := by
  obtain ⟨trs, hp, h1, h2, h3, rd⟩ := h
  refine ⟨_, pps_cons hk hv hp, by rw [List.length_cons, List.length_cons, h1], by rw [List.length_cons, List.length_cons, h2], by rw [List.all_cons, h3]; rfl, fun σ H Q ⟨ρ, R, M, s, p⟩ => ?_⟩
  refine ⟨ρ, R, M, s, (Post.bindF [] p).mono fun v H1 ⟨x, N, ρ1, hr, s1, p1⟩ => ?_⟩
  subst hr
  refine rd σ H1 _ ⟨ρ1, R, _, s1, (Post.bindF [.val v x.1 x.2] p1).mono fun ps H2 ⟨xs, N2, ρ2, hr2, s2, p2⟩ => ?_⟩
  obtain ⟨vs', rfl, l1, l2, rfl⟩ := hr2
  refine p2 _ H2 (.val v x.1 x.2 :: valsO vs' xs) ⟨v :: vs', rfl, by rw [List.length_cons, List.length_cons, l1], by rw [List.length_cons, List.length_cons, l2], rfl⟩ (s2.perm ?_)
  show (valsO vs' xs ++ (.val v x.1 x.2 :: M)).Perm (.val v x.1 x.2 :: valsO vs' xs ++ M)
  exact List.perm_middle
theorem mergeK_app : ∀ (kvs more : List (Key × V)), (∀ kv ∈ more, ∀ lv ∈ kvs, lv.1 ≠ kv.1) → (more.map (·.1)).Nodup → mergeK kvs more = kvs ++ more
  | kvs, [], _, _ => (List.append_nil kvs).symm
  | kvs, kv :: more, h, n => by
    obtain ⟨n1, n2⟩ := List.nodup_cons.mp n
    have hk : putK kvs kv.1 kv.2 = kvs ++ [kv] := by
      unfold putK
      rw [if_neg]
      intro z
      obtain ⟨lv, hl, e⟩ := List.any_eq_true.mp z
      exact h kv List.mem_cons_self lv hl (of_decide_eq_true e)
    show mergeK (putK kvs kv.1 kv.2) more = _
    rw [hk, mergeK_app (kvs ++ [kv]) more (fun z hz lv hl => ?_) n2, List.append_assoc]
    · rfl
    · rcases List.mem_append.mp hl with hl | hl
      · exact h z (List.mem_cons_of_mem _ hz) lv hl
      · rw [List.mem_singleton.mp hl]
        exact fun e => n1 (by show kv.1 ∈ _; rw [e]; exact List.mem_map_of_mem hz)
theorem se_dic {keys : List Key} {ks : List (Option Expr)} {vs : List Expr} (h : DP X cl W pos keys ks vs fs) (h0 : ks ≠ []) (h15 : keys.length ≤ 15) : PE X (.Dict ks vs pos) (tE X.K cl W fun ρ => (fs ρ).bind fun xs ρ1 => if keys.length = xs.length ∧ keys.length ≤ 15 ∧ keys.Nodup then .ok (.dic keys (xs.map (·.1)), .root) ρ1 else .stuck) := by
  obtain ⟨trs, hp, l1, l2, l3, rd⟩ := h
  refine PE.of (pe_disp hp l3 l2 h0 (by rw [l1]; exact h15)) fun σ H Q ⟨ρ, R, M, s, p⟩ => fun q hq => ?_
  have s0 : Sta X.K cl σ (upd H q (.dK [])) R ρ ([.cell q (.dK [])] ++ M) := Sta.item (N := []) (N' := [.cell q (.dK [])]) s fun L g => g.alloc hq
  refine rd σ _ _ ⟨ρ, R, _, s0, (Post.bindF [.cell q (.dK [])] p).mono fun ps H2 ⟨xs, N2, ρ2, hr2, s2, p2⟩ => ?_⟩
  obtain ⟨vs', rfl, m1, m2, rfl⟩ := hr2
  by_cases hx : keys.length = xs.length ∧ keys.length ≤ 15 ∧ keys.Nodup
  · rw [if_pos hx] at p2
    obtain ⟨Le, he, g⟩ := Sta.front (N := valsO vs' xs) s2
    have g1 := g.shareMany m2
    have g2 : Good X.K cl R H2 (.cell q (.dK []) :: (shs vs' (xs.map (·.1)) ++ (Le ++ M))) := by
      refine g1.perm ?_
      have p1 : (Le ++ (Item.cell q (.dK []) :: M)).Perm (.cell q (.dK []) :: (Le ++ M)) := List.perm_middle
      exact (p1.append_left _).trans List.perm_middle
    have hm : mergeK [] (keys.zip vs') = keys.zip vs' := by
      rw [mergeK_app [] _ (fun _ _ _ h => nomatch h) ?_]
      · rfl
      · rw [List.map_fst_zip (by omega)]
        exact hx.2.2
    refine ⟨g2.cellAt, keys.zip vs', rfl, by rw [List.length_zip]; omega, ?_⟩
    rw [hm]
    refine p2 _ _ _ rfl (Sta.ofFront (N := [.val (.ref q) (.dic keys (xs.map (·.1))) .root]) he ?_)
    exact Good.packDic (g2.write) (by rw [List.length_map, m2]) m1.symm
  · rw [if_neg hx] at p2
    exact p2.elim
theorem re_dic {keys : List Key} {ks : List (Option Expr)} {vs : List Expr} {ees : Es} (h : DP X cl W pos keys ks vs (evEs pg ees)) (h0 : ks ≠ [] := by exact List.cons_ne_nil _ _) (h15 : keys.length ≤ 15 := by decide) : QE X cl W pg (.Dict ks vs pos) (.dic keys ees) := se_dic h h0 h15
theorem rd_nil : DP X cl W pos [] [] [] (evEs pg .nil) := dp_nil
theorem rd_str {z : Str} {keys : List Key} {ks : List (Option Expr)} {vs : List Expr} {vx : Expr} {k : Nat} {p3 : Pos} (hv : QE X cl W pg vx ea) (h : DP X cl W pos keys ks vs (evEs pg ees)) : DP X cl W pos (.inr z :: keys) (some (.Constant (.str z) k p3) :: ks) (vx :: vs) (evEs pg (.cons ea ees)) := dp_cons pe_str hv h
theorem rd_int {z : Int} {keys : List Key} {ks : List (Option Expr)} {vs : List Expr} {vx : Expr} {k : Nat} {p3 : Pos} (hv : QE X cl W pg vx ea) (h : DP X cl W pos keys ks vs (evEs pg ees)) : DP X cl W pos (.inl z :: keys) (some (.Constant (.int z) k p3) :: ks) (vx :: vs) (evEs pg (.cons ea ees)) := dp_cons pe_int hv h
/-! a held argument, taken when the others are told -/
theorem sa_late {es : List Expr} {fs : FEnv → Ev (List DO)} {hs : List (Option Nat)} {i : Nat} (hN : X.N[i]? = some x) (hv : Vis X.env.scope x) (hd : (x == ("__debug__" : Str)) = false) (hcd : (x == ("__classdict__" : Str)) = false) (hs' : PA X es (tA X.K cl W hs fs)) (hst : starEach (.Name x pos :: es) X.env = (false, eval (.Name x pos) X.env) :: starEach es X.env) :
    PA X (.Name x pos :: es) (tA X.K cl W (some i :: hs) fun ρ => (match ρ[i]? with
    | some (some _) => (fs ρ).bind fun xs ρ1 => (match ρ1[i]? with
      | some (some x) => .ok (x :: xs) (ρ1.set i none)
      | _ => .stuck)
    | _ => .stuck)) :=
  PA.of (pa_cons (pe_var hN hv hd hcd) hs' hst) fun σ H Q ⟨ρ, R, M, s, p⟩ => by
    dsimp only at p
    split at p
    · rename_i y e
      obtain ⟨v, hv1, _⟩ := s.take (d := y.1) (o := y.2) e
      refine ⟨v, hv1, ρ, R, M, s, (Post.bindF [] p).mono fun vs H1 ⟨xs, N, ρ1, hr, s1, p1⟩ => ?_⟩
      obtain ⟨hl, hl2, rfl, hk⟩ := hr
      split at p1
      · rename_i z e1
        obtain ⟨v2, hv2, s2⟩ := s1.take (d := z.1) (o := z.2) e1
        have hvv : v2 = v := by
          rw [hv1] at hv2
          cases hv2
          rfl
        subst hvv
        refine p1 (v2 :: vs) H1 (.val v2 z.1 z.2 :: valsO vs xs) ⟨by rw [List.length_cons, List.length_cons, hl], by rw [List.length_cons, List.length_cons, hl2], rfl, fun p j w h1 h2 => ?_⟩ s2
        cases p with
        | zero =>
          have h1 : i = j := by simpa using h1
          have h2 : v2 = w := by simpa using h2
          subst h1 h2
          exact hv1
        | succ p => exact hk p j w (by simpa using h1) (by simpa using h2)
      · exact p1.elim
    · exact p.elim
theorem ra_late {es : List Expr} {ees : Es} (i : Nat) (hs : QA X cl W pg es ees) (hN : X.N[i]? = some x := by rfl) (hv : Vis X.env.scope x := by first | exact Or.inl rfl | exact Or.inr (Or.inl rfl) | exact Or.inr (Or.inr rfl)) (hd : (x == ("__debug__" : Str)) = false := by rfl) (hcd : (x == ("__classdict__" : Str)) = false := by rfl)
    (hst : starEach (Expr.Name x pos :: es) X.env = (false, eval (Expr.Name x pos) X.env) :: starEach es X.env := by rfl) : QA X cl W pg (.Name x pos :: es) (.consL i ees) :=
  sa_late hN hv hd hcd hs hst
/-! a loop over a held list -/
theorem takeBack {K : PySem.W.Frag} {σ : L2.St} {H P R : Hp} {ρ : FEnv} {M N : List Item} {i : Nat} {a : Addr} {vs : List V} {ds : List D} (r1 : Ex R P) (q : Rss K cl P vs ds) (e : ρ[i]? = some none) (e2 : σ[i]? = some (some (.ref a))) (s : Sta K cl σ H P ρ (N ++ ([.cell a (.lst vs)] ++ M))) : Sta K cl σ H R (ρ.set i (some (.lst ds, .root))) (N ++ M) := by
  have s1 : Sta K cl σ H P ρ ([.cell a (.lst vs)] ++ (N ++ M)) := s.perm (by
    rw [← List.append_assoc, ← List.append_assoc]
    exact List.perm_append_comm.append_right _)
  have s2 : Sta K cl σ H P ρ ([.val (.ref a) (.lst ds) .root] ++ (N ++ M)) := Sta.item (N := [.cell a (.lst vs)]) (N' := [.val (.ref a) (.lst ds) .root]) s1 fun L g => by
    have g1 := g.rssP q
    exact Good.packLst (g1.perm (by exact List.perm_middle)) q.length
  exact (Sta.give (v := .ref a) s2 e e2).mono r1
theorem ss_forH {tg : Expr} {body : List Stmt} {js : List Nat} {tp : Bool} {g : TG} {fb : FEnv → Fl} {io : List Nat} {i : Nat} (hp : PassesOwn (model X.prog X.w) X.A X.env X.xe) (hc : X.calm = true) (hN : X.N[i]? = some x) (hv : Vis X.env.scope x) (hd : (x == ("__debug__" : Str)) = false) (hcd : (x == ("__classdict__" : Str)) = false)
    (hg : TgOk X cl tg js tp g) (hb : PSs X body (ttS X cl W (i :: io) fb)) (hs : ∀ z, foldedSetIterable (.Name x p') X.env z = pure z) (hio : ∀ j ∈ i :: io, js.contains j = false) : PS X (.For tg (.Name x p') body [] pos) (ttS X cl W io fun ρ => forHF js tp i fb ρ) :=
  PS.of (ps_for hp hc (pi_seq (pe_var hN hv hd hcd)) hg.pg hb hs) fun Dn σ H ⟨ρ, R, M, k, s, hk, p⟩ => by
    have p : PostS X.K cl R M W io k Dn (forHF js tp i fb ρ) := p
    unfold forHF at p
    split at p
    · rename_i ds e
      obtain ⟨v, hv0, s1⟩ := s.take e
      obtain ⟨Le, he, P, f, r1, r2, c, n, e1⟩ := Sta.front (N := [.val v (.lst ds) .root]) s1
      cases e1 with
      | val h r =>
        cases h with
        | @lstR a vs _ ha q =>
          have g2 : Good X.K cl P H ([.cell a (.lst vs)] ++ (Le ++ M)) := ⟨P, _, Ex.refl P, r2, c, n, .cell ha rfl r⟩
          have s2 : Sta X.K cl σ H P (ρ.set i none) ([.cell a (.lst vs)] ++ M) := Sta.ofFront he g2
          have fin : ∀ fl, PostS X.K cl R M W io k Dn (backH i (.lst ds, .root) fl) → PostS X.K cl P ([.cell a (.lst vs)] ++ M) W (i :: io) (fun j => σ[j]?) Dn fl := by
            intro fl p
            have hkk : ∀ {σ' : L2.St}, Kp (i :: io) (fun j => σ[j]?) σ' → σ'[i]? = some (some (.ref a)) ∧ Kp io k σ' := fun h => ⟨(h i List.mem_cons_self).trans hv0, fun j hj => (h j (List.mem_cons_of_mem _ hj)).trans (hk j hj)⟩
            cases fl with
            | nx ρ' =>
              simp only [backH] at p
              split at p
              · rename_i e0
                exact fun σ' H' s' hk' => p σ' H' (takeBack (N := []) r1 q e0 (hkk hk').1 s') (hkk hk').2
              · exact p.elim
            | rt d o ρ' =>
              simp only [backH] at p
              split at p
              · rename_i e0
                exact fun w σ' H' s' hk' => p w σ' H' (takeBack (N := [.val w d o]) r1 q e0 (hkk hk').1 s') (hkk hk').2
              · exact p.elim
            | exc z ρ' =>
              simp only [backH] at p
              split at p
              · rename_i e0
                exact fun σ' H' dx s' hk' xo => p σ' H' dx (takeBack (N := []) r1 q e0 (hkk hk').1 s') (hkk hk').2 xo
              · exact p.elim
            | br ρ' => exact p.elim
            | ct ρ' => exact p.elim
            | stuck => exact p.elim
          have p := fin _ p
          refine ⟨.ref a, hv0, a, rfl, .inl ⟨⟨vs, SqL.of ha⟩, ?_⟩⟩
          refine ⟨fun i' m σ' H => m = ds.length - i' ∧ i' ≤ ds.length ∧ ∃ ρ, Sta X.K cl σ' H P ρ ([.cell a (.lst vs)] ++ M) ∧ Kp (i :: io) (fun j => σ[j]?) σ' ∧ PostS X.K cl P ([.cell a (.lst vs)] ++ M) W (i :: io) (fun j => σ[j]?) Dn (forLoop (forBody js tp fb) (ds.drop i') ρ), ⟨_, rfl, Nat.zero_le _, ρ.set i none, s2, fun j hj => rfl, p⟩, ?_⟩
          rintro i' m σ' H ⟨rfl, hi, ρ, s, hk, p⟩
          have hcell : H a = some (.lst vs) := by
            obtain ⟨Le1, he1, g1⟩ := Sta.front (N := [.cell a (.lst vs)]) s
            exact g1.cellAt
          by_cases hlt : i' < ds.length
          · right
            obtain ⟨v1, hv1, q1⟩ := rss_get q (List.getElem?_eq_getElem hlt)
            refine ⟨⟨vs, v1, SqL.of hcell, hv1⟩, fun σ2 H' => ∃ ρ, Sta X.K cl σ2 H' P ρ ([.cell a (.lst vs)] ++ M) ∧ Kp (i :: io) (fun j => σ[j]?) σ2 ∧ PostS X.K cl P ([.cell a (.lst vs)] ++ M) W (i :: io) (fun j => σ[j]?) Dn (forLoop (forBody js tp fb) (ds.drop (i' + 1)) ρ), fun σ2 H' h => ⟨ds.length - (i' + 1), by omega, rfl, hlt, h⟩, fun x H' y => ?_⟩
            have s2 : Sta X.K cl σ' H' P ρ ([.val x ds[i'] .sh] ++ ([.cell a (.lst vs)] ++ M)) := by
              obtain ⟨ey, y⟩ := y
              subst ey
              have hx := y vs (SqL.of hcell)
              rw [hv1] at hx
              cases hx
              obtain ⟨Le1, a1, b1⟩ := s
              exact Sta.ofFront (N := [.val v1 ds[i'] .sh]) a1 (b1.rsP q1)
            rw [List.drop_eq_getElem_cons hlt] at p
            simp only [forLoop, forBody] at p
            cases eb : bindTg js tp ds[i'] ρ with
            | none =>
              rw [eb] at p
              exact p.elim
            | some ρ2 =>
              rw [eb] at p
              refine hg.ok s2 eb fun σ3 s3 hke hl => ⟨ρ2, P, _, _, s3, hk.other hio hke, ?_⟩
              dsimp only at p
              cases ef : fb ρ2 with
              | nx ρ3 =>
                rw [ef] at p
                exact fun σ H s hk => ⟨ρ3, s, hk, p⟩
              | ct ρ3 =>
                rw [ef] at p
                exact fun σ H s hk => ⟨ρ3, s, hk, p⟩
              | br ρ3 =>
                rw [ef] at p
                exact p
              | rt d o ρ3 =>
                rw [ef] at p
                exact p
              | exc x ρ3 =>
                rw [ef] at p
                exact p
              | stuck =>
                rw [ef] at p
                exact p
          · left
            have ei : i' = ds.length := by omega
            subst ei
            refine ⟨⟨vs, SqL.of hcell, by rw [q.length]; exact Nat.le_refl _⟩, ?_⟩
            rw [List.drop_length] at p
            exact p σ' H s hk
    · exact p.elim
theorem rs_forH {n : Nat} {io : List Nat} {tg : Expr} {body : List Stmt} {js : List Nat} {tp : Bool} {g : TG} {s2 : Ss} (i : Nat) (hp : PassesOwn (model X.prog X.w) X.A X.env X.xe) (B : Bd X W n) (hg : TgOk X cl tg js tp g) (hb : QSs X cl W (i :: io) pg body s2) (hN : X.N[i]? = some x := by rfl) (hv : Vis X.env.scope x := by first | exact Or.inl rfl | exact Or.inr (Or.inl rfl) | exact Or.inr (Or.inr rfl)) (hd : (x == ("__debug__" : Str)) = false := by rfl) (hcd : (x == ("__classdict__" : Str)) = false := by rfl)
    (hs : ∀ z, foldedSetIterable (.Name x p') X.env z = pure z := by intro _; rfl) (hio : ∀ j ∈ i :: io, js.contains j = false := by decide) : QS X cl W io pg (.For tg (.Name x p') body [] pos) (.forH js tp i s2) := ss_forH hp B.hc hN hv hd hcd hg hb hs hio
/-! bit_length -/
theorem re_bits (ho : QE X cl W pg o eo) (hbase : attributeBase o "bit_length" X.env (eval o X.env) = eval o X.env := by rfl) (hline : (apos.endLine == pos.line) = true := by rfl) : QE X cl W pg (.Call (.Attribute o "bit_length" apos) [] [] pos) (.bm .bitlen eo .nil) :=
  PE.of (pe_bits ho hbase hline) fun σ H Q ⟨ρ, R, M, s, p⟩ => ⟨ρ, R, M, s, (Post.bindF [] p).mono fun v H1 ⟨x, N, ρ1, hr, s1, p1⟩ => by
    subst hr
    obtain ⟨Le, he, g⟩ := Sta.front (N := [.val v x.1 x.2]) s1
    obtain ⟨d, o⟩ := x
    cases d with
    | int i =>
      have ev := int_of g
      subst ev
      exact ⟨i, rfl, p1 _ H1 _ rfl (Sta.ofFront (N := [.val (.int _) (.int _) .sh]) he (g.tail.flat (.int _)))⟩
    | _ => exact p1.elim⟩
end
end FB
/-! enumerate(xs, start=c) -/
namespace FB
open PySem L2 PyProof.Rows
section
variable {M : Model} {A : Around} {E : Value → Shared → Prop} {s : Shared}
theorem call_tyK {pos : Pos} {T : String} {ts : List (Bool × Sem Value)} {kw : List (Option Str × Sem Value)} {Q : Value → Shared → Prop} (h1 : ts.any (·.1) = false) (h2 : kw.any (·.1.isNone) = false)
    (h : wpAny M A (evalArgs (.type T) true ts kw) (fun a t => wpAny M A (call (.type T) a.pos a.kw) Q E t) E s) : wpAny M A (callWith pos (.type T) [] ts kw) Q E s := by
  unfold callWith
  refine wpAny_bind (wpAny_holding (wpAny_mono h (fun a t hA => ?_) fun _ _ z => z)); refine wpAny_bind (wpAny_standAt ?_)
  simp only [h1, h2, Bool.or_false]
  refine wpAny_bind (wpAny_pure (wpAny_bind (wpAny_mono hA (fun r t2 q => ?_) fun _ _ z => z)))
  exact wpAny_bind (wpAny_holding (wpAny_point (wpAny_pure q)))
end
/-- the items of the list at a, each behind its count from c on, in a new pair -/
def ItK (K : PySem.W.Frag) (a : Addr) (c : Int) : L2.It where
  go := fun i H => ∃ xs x, SqL K H a xs ∧ xs[i]? = some x
  yld := fun i H v H' => ∃ T x, v = .ref T ∧ H T = none ∧ H' = upd H T (.tup [.int (c + (i : Int)), x]) ∧ ∀ xs, SqL K H a xs → xs[i]? = some x
  stop := fun i H => ∃ xs : List V, SqL K H a xs ∧ i = xs.length
theorem turn_from {P : Program} {w : World} {K : PySem.W.Frag} {els : List Expr} {kk : Nat} {tp : Pos} (a e it : Addr) (c : Int) :
    Turn P w K (.Tuple els kk tp) (ItK K a c) [e, it] e fun i h => (∃ old, IsEnum h e it (c + (i : Int)) old) ∧ h.IsListIter it a i ∧ e ≠ it ∧ a ≠ it ∧ a ≠ e where
  mem := List.mem_cons_self
  obj := by
    rintro i h ⟨⟨old, he⟩, ⟨o, ho, _, hd⟩, _⟩ b hb
    rcases List.mem_cons.mp hb with z | hb
    · subst z
      exact ⟨_, he, fun v q => by cases q⟩
    · rw [List.mem_singleton.mp hb]
      exact ⟨o, ho, fun v q => by rw [hd] at q; cases q⟩
  keep := by
    rintro i h h' ⟨⟨old, he⟩, hi, n1, n2⟩ k
    exact ⟨⟨old, k e List.mem_cons_self _ he⟩, hi.at fun o q => k it (List.mem_cons_of_mem _ List.mem_cons_self) o q, n1, n2⟩
  item := by
    rintro X rfl rfl rfl hc i pins s σ H E I hf ⟨⟨old, he⟩, hit, n1, n2, n3⟩ ⟨xs, x, hq, hx⟩
    obtain ⟨its, rv, p, hz⟩ := I.list hq
    obtain ⟨u, hu, ru⟩ := rv.get hx
    have b1 : e < s.heap.objs.size := Heap.lt_size he
    have b2 : it < s.heap.objs.size := by obtain ⟨_, q, _⟩ := hit; exact Heap.lt_size q
    have hlt : i < its.toArray.size := by
      rw [List.size_toArray]
      exact (List.getElem?_eq_some_iff.mp hu).1
    have nf : e ∉ [it, a] := fun z => by
      rcases List.mem_cons.mp z with z | z
      · exact n1 z
      · exact n3 (List.mem_singleton.mp z).symm
    refine wpAny_pyNext_enum_itemC (Draws.list (A := X.A.in1) (show X.A.in1.handled = none from I.ok.hd hc) it a n2 its.toArray) he ⟨hit, p.isList⟩ hlt n1 nf fun z h' tk hz2 ho hst hT hsz hk => ?_
    have ez : z = u := by
      have hz2 : its.toArray[i]? = some z := hz2
      rw [List.getElem?_toArray, hu] at hz2
      exact (Option.some.inj hz2).symm
    subst ez
    refine ⟨_, rfl, wpAny_letOwnedTupleGo_enum (s := { s with heap := h', toks := tk + 1 }) ho fun h2 he2 sb => ?_⟩
    have hT2 : h2.get? s.heap.objs.size = some { cls := .type "tuple", data := .seq #[.int (c + (i : Int)) tk, z] } := (sb.2 _ (Nat.ne_of_gt b1)).trans hT
    have new : ObjOk X.prog X.w (upd H s.heap.objs.size (.tup [.int (c + (i : Int)), x])) h2 s.heap.objs.size (.tup [.int (c + (i : Int)), x]) :=
      ⟨by show 2 ≤ sizeLine; decide, [.int (c + (i : Int)) tk, z], .cons ⟨_, rfl⟩ (.cons ru .nil), _, hT2, rfl, _, rfl⟩
    have I2 : Inv X pins σ (upd H s.heap.objs.size (.tup [.int (c + (i : Int)), x])) { s with heap := h2, toks := tk + 1 } := by
      refine I.turnedNew (ch := [e, it]) (fun b ob hb q => ?_) hf (Nat.le_refl _) new
      have q1 : b ≠ e := fun z => hb (by rw [z]; exact List.mem_cons_self)
      have q2 : b ≠ it := fun z => hb (by rw [z]; exact List.mem_cons_of_mem _ List.mem_cons_self)
      exact (sb.2 b q1).trans (hk b ob q1 q2 q)
    refine ⟨.ref s.heap.objs.size, _, I2, rfl, ⟨_, x, rfl, I.hok.fresh (Nat.le_refl _), rfl, fun ys hy => by rw [I.list_inj hy hq]; exact hx⟩, ⟨⟨z, ?_⟩, hst.1.at fun o q => (sb.2 it (Ne.symm n1)).trans q, n1, n2, n3⟩, fun b hb => ?_⟩
    · have e1 : c + ((i + 1 : Nat) : Int) = c + (i : Int) + 1 := by omega
      rw [e1]
      exact he2
    · have hb' : b < s.heap.objs.size := by
        rcases List.mem_cons.mp hb with z | z
        · rw [z]; exact b1
        · rw [List.mem_singleton.mp z]; exact b2
      rw [upd_ne (Nat.ne_of_lt hb')]
      exact (hf b hb).1
  done := by
    rintro X rfl rfl rfl hc i pins s σ H E I hf ⟨⟨old, he⟩, hit, n1, n2, n3⟩ ⟨xs, hq, hx⟩
    obtain ⟨its, rv, p, hz⟩ := I.list hq
    obtain ⟨f0, f1, f2, f3, f4, f5⟩ := hf it (List.mem_cons_of_mem _ List.mem_cons_self)
    have hl := rv.length
    subst hx
    have e1 : its.toArray.size = xs.length := by rw [List.size_toArray]; omega
    refine wpAny_pyNext_enum_endD (Draws.list (A := X.A.in1) (show X.A.in1.handled = none from I.ok.hd hc) it a n2 its.toArray) he ⟨by rw [e1]; exact hit, p.isList⟩ fun h' eb => ⟨rfl, I.turned (t' := s.toks) (fun b o hb q => eb b o hb q) f0 f1 f3 f4 f5⟩
  self := fun A i s Q E st h => let ⟨⟨_, he⟩, _⟩ := st; wpAny_pyIter_enum he h
def iFrom (K : PySem.W.Frag) (c : Int) (ta : TA) : TI := fun σ H R => ta σ H fun vs H1 => ∃ a xs, vs = [.ref a] ∧ SqL K H1 a xs ∧ R (ItK K a c) H1
theorem pi_from {X : Cx} {e ke : Expr} {ta : TA} {c : Int} {p pos tpos kpos : Pos} {els : List Expr} {kk : Nat} (hg : Gl X "enumerate") (hm : X.mg "enumerate" = none) (ha : PA X [e] ta) (hk : PE X ke (tC (.int c))) (h0 : -(2 ^ 63) ≤ c) (h1 : c < 2 ^ 63)
    (hs : backTo pos (starEach [e] X.env) = [(false, eval e X.env)] := by rfl) (hks : (backToKw pos (keywordEach [⟨some "start", ke, kpos⟩] X.env)).filterMap (·.1) = [Str.ofString "start"] := by rfl)
    (hall : (backToKw pos (keywordEach [⟨some "start", ke, kpos⟩] X.env)).all (·.1.isSome) = true := by rfl) (hno : (backToKw pos (keywordEach [⟨some "start", ke, kpos⟩] X.env)).any (·.1.isNone) = false := by rfl) :
    PI X (.Tuple els kk tpos) (.Call (.Name "enumerate" p) [e] [⟨some "start", ke, kpos⟩] pos) (iFrom X.K c ta) := by
  refine ⟨fun pins s σ H R I h => ?_⟩
  have pk := pk_cons (nm := some "start") (kpos := kpos) hk (pk_nil (X := X))
  refine wpAny_Call_Name_kw (ld_blt I hg hm boot_enumerate ?_)
  refine call_tyK (by rw [hs]; rfl) hno ?_
  rw [hs]
  refine PyProof.Rows.evalArgs_kwB hall ?_
  rw [← hs]
  refine thn (ha.run pos pins s σ H _ I h) fun us s1 ⟨vs, H1, I1, r1, q1⟩ => ?_
  obtain ⟨a, xs, ex, hq, q⟩ := q1
  refine thn (pk.run pos pins s1 σ H1 (fun zs H2 => zs = [.int c] ∧ H2 = H1) I1 ⟨rfl, rfl⟩) fun ws s2 ⟨zs, H2, I2, r2, ez, eh⟩ => ?_
  subst ex ez eh
  rw [hks]
  cases r1 with
  | cons r rr =>
  cases rr
  cases r
  cases r2 with
  | cons r rr =>
  cases rr
  obtain ⟨t, rfl⟩ := r
  obtain ⟨its, rv, p', hz⟩ := I2.list hq
  refine enum_begins_start (begins_list a its.toArray) p'.isList h0 h1 fun h' he hit hsz hk => wpAny_pyIter_enum he ?_
  have al : a < s2.heap.objs.size := by obtain ⟨o, ho, _⟩ := p'.isList; exact Heap.lt_size ho
  have I3 : Inv X pins σ H2 { s2 with heap := h' } := I2.kept (t' := s2.toks) hk
  have e0 : c + ((0 : Nat) : Int) = c := by omega
  refine ⟨s2.heap.objs.size + 1, [s2.heap.objs.size + 1, s2.heap.objs.size], _, _, H2, rfl, I3, turn_from a _ _ c, ⟨⟨.none, by rw [e0]; exact he⟩, ⟨_, hit, rfl, rfl⟩, Nat.succ_ne_self _, Nat.ne_of_lt al, Nat.ne_of_lt (Nat.lt_succ_of_lt al)⟩, fun b hb => ?_, q⟩
  have hle : s2.heap.objs.size ≤ b := by
    rcases List.mem_cons.mp hb with z | z
    · rw [z]; exact Nat.le_add_right _ _
    · rw [List.mem_singleton.mp z]; exact Nat.le_refl _
  exact I2.fpOk hle (I2.hok.fresh hle)
theorem itfrom_ok {K : PySem.W.Frag} {cl : Nat → Addr} {P : Hp} {p : Addr} {vs : List V} {ds : List D} {c : Int} (hp : SqL K P p vs) (r : Rss K cl P vs ds) : ItOk K cl P (ItK K p c) ((List.range ds.length).zip ds |>.map fun z => .tup [.int (c + (z.1 : Int)), z.2]) := fun H ex => by
  refine ⟨⟨vs, ex_l ex hp, ?_⟩, fun i d hd => ?_⟩
  · rw [List.length_map, List.length_zip, List.length_range, r.length, Nat.min_self]
  · rw [List.getElem?_map] at hd
    cases hz : ((List.range ds.length).zip ds)[i]? with
    | none => rw [hz] at hd; cases hd
    | some z =>
      rw [hz] at hd
      cases hd
      obtain ⟨d1, d2⟩ := z
      obtain ⟨h1, h2⟩ := List.getElem?_zip_eq_some.mp hz
      have h1 : d1 = i := by
        rw [List.getElem?_range (by have := (List.getElem?_eq_some_iff.mp h2).1; omega)] at h1
        exact (Option.some.inj h1).symm
      subst h1
      obtain ⟨v, hv, q1⟩ := rss_get r h2
      refine ⟨⟨vs, v, ex_l ex hp, hv⟩, fun x H' ⟨T, x1, e1, hT, e2, y1⟩ L g => ?_⟩
      have hx1 := y1 vs (ex_l ex hp)
      rw [hv] at hx1
      cases hx1
      subst e1 e2
      have g2 : Good K cl P H (shs [.int (c + (d1 : Int)), v] [.int (c + (d1 : Int)), d2] ++ L) := g.rssP (.cons (.int _) (.cons q1 .nil))
      exact ((g2.alloc hT).packTup rfl).share
section
variable {X : Cx} {cl : Nat → Addr} {W : WX} {pg : Pg} {a ke : Expr} {ea : E} {io : List Nat}
theorem ri_from {p pos tpos kpos : Pos} {els : List Expr} {kk : Nat} (c : Int) (hm : X.mg "enumerate" = none) (ha : QE X cl W pg a ea) (hk : PE X ke (tC (.int c))) (h0 : -(2 ^ 63) ≤ c := by decide) (h1 : c < 2 ^ 63 := by decide) (hg : Gl X "enumerate" := by rfl)
    (hst : starEach [a] X.env = [(false, eval a X.env)] := by rfl) (hs : backTo pos (starEach [a] X.env) = [(false, eval a X.env)] := by rfl) (hks : (backToKw pos (keywordEach [⟨some "start", ke, kpos⟩] X.env)).filterMap (·.1) = [Str.ofString "start"] := by rfl)
    (hall : (backToKw pos (keywordEach [⟨some "start", ke, kpos⟩] X.env)).all (·.1.isSome) = true := by rfl) (hno : (backToKw pos (keywordEach [⟨some "start", ke, kpos⟩] X.env)).any (·.1.isNone) = false := by rfl) :
    QI X cl W pg (.Tuple els kk tpos) (.Call (.Name "enumerate" p) [a] [⟨some "start", ke, kpos⟩] pos) (.enum ea c) :=
  PI.of (pi_from hg hm (pa_cons ha pa_nil hst) hk h0 h1 hs hks hall hno) fun σ H Rk ⟨ρ, R, M, s, p⟩ => ⟨ρ, R, M, s, (PostI.bindF [] p).mono fun v H1 ⟨x, N, ρ1, hr, s1, p1⟩ => by
    subst hr
    obtain ⟨d, o⟩ := x
    have s3 : Sta X.K cl σ H1 R ρ1 ([.val v d .sh] ++ M) := Sta.item (N := [.val v d o]) (N' := [.val v d .sh]) s1 fun L g => g.share
    obtain ⟨P1, ex1, q1, s4⟩ := s3.grow
    have exH : Ex P1 H1 := s4.raw
    dsimp only at p1
    cases q1 with
    | @lst q ws e2 e r2 => exact ⟨q, ws, rfl, SqL.of (exH _ _ e), p1 _ H1 P1 ex1 (itfrom_ok (SqL.of e) r2) s4.dropL⟩
    | _ => exact p1.elim⟩
/-! a target within a target -/
structure TgN (X : Cx) (cl : Nat → Addr) (tg : Expr) (j : Nat) (js : List Nat) (g : TG) : Prop where
  pg : PG X tg g
  ok : ∀ {R : Hp} {M : List Item} {v : V} {d : D} {σ : L2.St} {H : Hp} {ρ ρ2 : FEnv} {Q : L2.St → Hp → Prop}, Sta X.K cl σ H R ρ ([.val v d .sh] ++ M) → bindN j js d ρ = some ρ2 →
    (∀ σ', Sta X.K cl σ' H R ρ2 M → (∀ i, (j :: js).contains i = false → σ'[i]? = σ[i]?) → σ'.length = σ.length → Q σ' H) → g v σ H Q
theorem bindN_tup {j : Nat} {js : List Nat} {d : D} {ρ ρ2 : FEnv} (e : bindN j js d ρ = some ρ2) : ∃ x y, d = .tup [x, y] ∧ bindTg js true y (ρ.set j (some (x, .sh))) = some ρ2 := by
  unfold bindN at e
  split at e
  · exact ⟨_, _, rfl, e⟩
  · cases e
theorem tg_nest {e1 : Expr} {es : List Expr} {kk k2 n j : Nat} {js : List Nat} {pos pos2 : Pos} (hc : X.calm = true) (hn : js.length = n) (h1 : PG X e1 (gName j)) (h2 : PGs X es (gNames js))
    (hl : (assignEach [e1, .Tuple es k2 pos2] X.env).length = 2 := by rfl) (hst : (assignEach [e1, .Tuple es k2 pos2] X.env).findIdx? (·.1) = none := by rfl) (hl2 : (assignEach es X.env).length = n := by rfl) (hst2 : (assignEach es X.env).findIdx? (·.1) = none := by rfl)
    (ha : (assignEach [e1, .Tuple es k2 pos2] X.env).map (·.2) = assign e1 X.env :: (assignEach [.Tuple es k2 pos2] X.env).map (·.2) := by rfl) (hb : (assignEach [Expr.Tuple es k2 pos2] X.env).map (·.2) = assign (.Tuple es k2 pos2) X.env :: (assignEach [] X.env).map (·.2) := by rfl) :
    TgN X cl (.Tuple [e1, .Tuple es k2 pos2] kk pos) j js (gTL X.K 2 (gCons (gName j) (gCons (gTL X.K n (gNames js)) gNil))) :=
  ⟨pg_tl hc (pgs_cons h1 (pgs_cons (pg_tl hc h2 hl2 hst2) pgs_nil hb) ha) hl hst, fun {R M v d σ H ρ ρ2 Q} s e q => by
    obtain ⟨x, y, rfl, e⟩ := bindN_tup e
    obtain ⟨P, ex, k1, s3⟩ := s.grow
    have exH : Ex P H := s3.raw
    cases k1 with
    | @tup a vs _ e0 r =>
      cases r with
      | @cons v1 _ vs1 _ r1 rr =>
      cases rr with
      | @cons v2 _ vs2 _ r2 rr2 =>
      cases rr2
      have s4 : Sta X.K cl σ H P ρ ([.val v1 x .sh] ++ ([.val v2 y .sh] ++ M)) := Sta.item (N := []) (N' := shs [v1, v2] [x, y]) s3.dropL fun L g => g.rssP (.cons r1 (.cons r2 .nil))
      refine Or.inl ⟨a, [v1, v2], rfl, ex_t exH e0, rfl, v1, [v2], rfl, ?_⟩
      refine ⟨v2, [], rfl, tgr_tl hn (s4.put (i := j)) e fun σ' s' hk hl' => ⟨rfl, q σ' (s'.mono ex) (fun i hi => ?_) (by rw [hl', List.length_set])⟩⟩
      simp only [List.contains_cons, Bool.or_eq_false_iff] at hi
      rw [hk i hi.2]
      have hne : j ≠ i := fun z => by subst z; simp at hi
      rw [List.getElem?_set_ne hne]⟩
theorem ss_forN {tg iter : Expr} {body : List Stmt} {j : Nat} {js : List Nat} {pos : Pos} {g : TG} {fi : FEnv → Ev (List D)} {fb : FEnv → Fl} (hp : PassesOwn (model X.prog X.w) X.A X.env X.xe) (hc : X.calm = true) (hi : PI X tg iter (tI X.K cl W fi)) (hg : TgN X cl tg j js g) (hb : PSs X body (ttS X cl W io fb))
    (hs : ∀ x, foldedSetIterable iter X.env x = pure x) (hio : ∀ k ∈ io, (j :: js).contains k = false) : PS X (.For tg iter body [] pos) (ttS X cl W io fun ρ => (fi ρ).fl fun ds ρ1 => forLoop (forBodyN j js fb) ds ρ1) :=
  PS.of (ps_for hp hc hi hg.pg hb hs) fun Dn σ H ⟨ρ, R, M, k, s, hk, p⟩ => ⟨ρ, R, M, s, p.toI hk fun ds ρ1 _ p J H1 P ex it s1 => by
    refine ⟨fun i m σ H => m = ds.length - i ∧ i ≤ ds.length ∧ ∃ ρ, Sta X.K cl σ H P ρ M ∧ Kp io k σ ∧ PostS X.K cl P M W io k Dn (forLoop (forBodyN j js fb) (ds.drop i) ρ), ⟨_, rfl, Nat.zero_le _, ρ1, s1, hk, (p.mono ex)⟩, ?_⟩
    rintro i m σ H ⟨rfl, hi, ρ, s, hk, p⟩
    obtain ⟨h1, h2⟩ := it H s.raw
    by_cases hlt : i < ds.length
    · right
      obtain ⟨g1, g2⟩ := h2 i _ (List.getElem?_eq_getElem hlt)
      refine ⟨g1, fun σ' H' => ∃ ρ, Sta X.K cl σ' H' P ρ M ∧ Kp io k σ' ∧ PostS X.K cl P M W io k Dn (forLoop (forBodyN j js fb) (ds.drop (i + 1)) ρ), fun σ' H' h => ⟨ds.length - (i + 1), by omega, rfl, hlt, h⟩, fun x H' y => ?_⟩
      have s2 : Sta X.K cl σ H' P ρ ([.val x ds[i] .sh] ++ M) := by
        obtain ⟨Le, a, b⟩ := s
        exact Sta.ofFront (N := [.val x ds[i] .sh]) a (g2 x H' y _ b)
      rw [List.drop_eq_getElem_cons hlt] at p
      simp only [forLoop, forBodyN] at p
      cases eb : bindN j js ds[i] ρ with
      | none =>
        rw [eb] at p
        exact p.elim
      | some ρ2 =>
        rw [eb] at p
        refine hg.ok s2 eb fun σ' s3 hke hl => ⟨ρ2, P, M, k, s3, hk.other hio hke, ?_⟩
        dsimp only at p
        cases ef : fb ρ2 with
        | nx ρ3 =>
          rw [ef] at p
          exact fun σ H s hk => ⟨ρ3, s, hk, p⟩
        | ct ρ3 =>
          rw [ef] at p
          exact fun σ H s hk => ⟨ρ3, s, hk, p⟩
        | br ρ3 => rw [ef] at p; exact p
        | rt d o ρ3 => rw [ef] at p; exact p
        | exc x ρ3 => rw [ef] at p; exact p
        | stuck => rw [ef] at p; exact p
    · left
      have ei : i = ds.length := by omega
      subst ei
      refine ⟨h1, ?_⟩
      rw [List.drop_length] at p
      exact p σ H s hk⟩
theorem rs_forN {n : Nat} {tg iter : Expr} {body : List Stmt} {j : Nat} {js : List Nat} {pos : Pos} {g : TG} {it : It} {s2 : Ss} (hp : PassesOwn (model X.prog X.w) X.A X.env X.xe) (B : Bd X W n) (hi : QI X cl W pg tg iter it) (hg : TgN X cl tg j js g) (hb : QSs X cl W io pg body s2)
    (hs : ∀ x, foldedSetIterable iter X.env x = pure x := by intro _; rfl) (hio : ∀ k ∈ io, (j :: js).contains k = false := by decide) : QS X cl W io pg (.For tg iter body [] pos) (.forN j js it s2) := ss_forN hp B.hc hi hg hb hs hio
/-! d.get(k) -/
theorem re_dget {n : Nat} {o e : Expr} {eo ek : E} {apos cpos : Pos} (B : Bd X W n) (ho : QE X cl W pg o eo) (he : QE X cl W pg e ek) (hbase : attributeBase o "get" X.env (eval o X.env) = eval o X.env := by rfl)
    (hfew : ((backTo cpos (starEach [e] X.env)).all (fun x => !x.1) && (backToKw cpos (keywordEach [] X.env)).all (fun x => x.1.isSome)
      && decide (([e] : List Expr).length + ([] : List Keyword).length + (if ([] : List Keyword).isEmpty then 0 else 1) < 30)) = true := by rfl)
    (hline : (apos.endLine == cpos.line) = true := by rfl) (htr : backTo cpos (starEach [e] X.env) = [(false, eval e X.env)] := by rfl) :
    QE X cl W pg (.Call (.Attribute o "get" apos) [e] [] cpos) (.bm .get eo (.cons ek .nil)) :=
  PE.of (pe_dget1 (by have := B.hu; omega) ho he ⟨hbase, hfew, hline, htr⟩) fun σ H Q ⟨ρ, R, M, s, p⟩ => by
    refine ⟨ρ, R, M, s, (Post.bindF (x := evE pg eo ρ) [] p).mono fun v H1 ⟨x, N, ρ1, hr1, s1, p1⟩ => ?_⟩
    subst hr1
    obtain ⟨d, o1⟩ := x
    have p1 : Post X.K cl repV R M W σ Q (if bmTy .get d then ((evE pg ek ρ1).bind fun y ρ2 => opt (bmD .get d [y.1]) ρ2 fun z => .ok z ρ2) else .stuck) := by
      have e0 : evEs pg (.cons ek .nil) ρ1 = (evE pg ek ρ1).bind fun y ρ2 => .ok [y] ρ2 := rfl
      have p1 : Post X.K cl repV R M W σ Q (if bmTy .get d then (evEs pg (.cons ek .nil) ρ1).bind fun xs ρ2 => opt (bmD .get d (xs.map (·.1))) ρ2 fun z => .ok z ρ2 else .stuck) := p1
      rw [e0] at p1
      cases ey : evE pg ek ρ1 <;> rw [ey] at p1 <;> exact p1
    by_cases ht : bmTy .get d = true
    · rw [if_pos ht] at p1
      obtain ⟨ks, ds, rfl⟩ : ∃ ks ds, d = .dic ks ds := by cases d <;> first | exact ⟨_, _, rfl⟩ | cases ht
      have s2 : Sta X.K cl σ H1 R ρ1 ([.val v (.dic ks ds) .sh] ++ M) := Sta.item (N := [.val v (.dic ks ds) o1]) (N' := [.val v (.dic ks ds) .sh]) s1 fun L g => g.share
      obtain ⟨P, ex, h1, s3⟩ := s2.grow
      have exH : Ex P H1 := s3.raw
      cases h1 with
      | @dic a _ vs _ ed hl r =>
        have rd1 : Rd H1 a (.dK (ks.zip vs)) := ex_rd exH ed
        refine ⟨a, rfl, .inl ⟨_, rd1⟩, ρ1, P, [.val (.ref a) (.dic ks ds) .sh] ++ M, s3, ?_⟩
        have p2 := Post.bindF (rep := repV) (R := P) [.val (.ref a) (.dic ks ds) .sh] (Post.monoR ex p1)
        refine p2.mono fun w H2 ⟨y, N2, ρ2, hr2, s4, p4⟩ => ?_
        subst hr2
        obtain ⟨z, hz, p5⟩ := p4.opt
        have s5 : Sta X.K cl σ H2 P ρ2 ([.val w y.1 .sh] ++ ([.val (.ref a) (.dic ks ds) .sh] ++ M)) := Sta.item (N := [.val w y.1 y.2]) (N' := [.val w y.1 .sh]) s4 fun L g => g.share
        obtain ⟨P2, ex2, h2, s6⟩ := s5.grow
        have rd2 : Rd H2 a (.dK (ks.zip vs)) := ex_rd (ex2.trans s6.raw) ed
        simp only [bmD, Option.map] at hz
        cases hk : keyD y.1 with
        | none => rw [hk] at hz; cases hz
        | some k =>
          rw [hk] at hz
          cases hz
          have ew : w = kV k := by
            obtain ⟨yd, yo⟩ := y
            cases yd with
            | int i =>
              cases hk
              cases h2
              rfl
            | str i =>
              cases hk
              cases h2
              rfl
            | _ => cases hk
          subst ew
          have r2 : Rss X.K cl P2 vs ds := r.mono ex2
          refine ⟨_, dget_rd rd2, ?_⟩
          rcases valV_zip (K := X.K) (P := P2) k hl r2 with ⟨v', d', q1, q2, q3⟩ | ⟨q1, q2⟩
          · rw [q1]
            refine p5 v' H2 [.val v' d' .sh] ?_ ?_
            · rw [q2]; rfl
            · exact (Sta.item (N := []) (N' := [.val v' d' .sh]) (s6.dropL.dropL) fun L g => g.rssP (.cons q3 .nil)).mono ex2
          · rw [q1]
            refine p5 .non H2 [.val .non .non .sh] ?_ ?_
            · rw [q2]; rfl
            · exact (Sta.item (N := []) (N' := [.val .non .non .sh]) (s6.dropL.dropL) fun L g => g.flat .non).mono ex2
    · rw [if_neg ht] at p1
      exact p1.elim
end
end FB
/-! enumerate(a tuple) -/
namespace PySem
open Sem (wp)
open AutoSeq1 (wpAny_loadPart')
set_option maxHeartbeats 4000000 in
theorem fb_enumT (t : Addr) (its : Array Value) (m : Nat) (dd : Option Addr) (ss : Array (Option Value)) :
    Meets (Builtin.«enumerate.__new__» ⟨[.type "enumerate", .ref t], []⟩) (fun _ R s => s.heap.get? t = some { cls := .type "tuple", dict := dd, data := .seq its m, slots := ss } ∧
      R (.ok (.ret (.ref (s.heap.push { cls := .type "tuple_iterator", data := .fields #[.ref t, .int 0 0] }).objs.size)))
        { s with heap := (s.heap.push { cls := .type "tuple_iterator", data := .fields #[.ref t, .int 0 0] }).push { cls := .type "enumerate", data := .fields #[.none, .bool false, .ref s.heap.objs.size, rawInt 0, .none, .none] } }) :=
  .of_wp fun pr wd Ar Rr sh hh => by
    obtain ⟨h0, g0, d0, k0, o0⟩ := sh
    obtain ⟨ht, hh⟩ := hh
    have sube := sub_enumerate
    have hT : Heap.IsTuple (Shared.heap ⟨h0, g0, d0, k0, o0⟩) t its := ⟨_, ht, rfl, m, rfl⟩
    wp_walk using wpAny_loadPart' ht
    refine wpAny_stack_any fun sta => wpAny_pure ?_
    split
    · rename_i cc _ _ _ _ _
      cases (cc == Value.type "enumerate")
      · wp_walk using wpAny_loadPart' ht, wpAny_pyIter_tuple hT
        exact ⟨_, rfl, hh⟩
      · wp_walk using wpAny_loadPart' ht, wpAny_pyIter_tuple hT
        exact ⟨_, rfl, hh⟩
    · wp_walk using wpAny_loadPart' ht, wpAny_pyIter_tuple hT
      exact ⟨_, rfl, hh⟩
section
variable {prog : Program} {w : World} {A : Around} {E : Value → Shared → Prop} {s : Shared}
theorem fb_callEnumT {t : Addr} {its : Array Value} {Q : Value → Shared → Prop} (hT : s.heap.IsTuple t its)
    (k : ∀ h', IsEnum h' (s.heap.objs.size + 1) s.heap.objs.size 0 .none → h'.IsTupleIter s.heap.objs.size t 0 → (∀ b o, s.heap.get? b = some o → h'.get? b = some o) → Q (.ref (s.heap.objs.size + 1)) { s with heap := h' }) :
    wpAny (model prog w) A (call (.type "enumerate") [.ref t]) Q E s := by
  obtain ⟨⟨c, dd, dt, ss⟩, ht, hc, m, hd⟩ := hT
  have hc : c = .type "tuple" := hc
  have hd : dt = .seq its m := hd
  subst hc hd
  refine callType_new F.called_enumerate (by decide) (F.typeCall_enumerate_1 _) (F.newCall_enumerate_1 _) (fun ob => F.args_object_init_2 ob _) F.entry_enumerate_new (fb_enumT t its m dd ss) ⟨ht, ?_⟩
  have z : (s.heap.push { cls := .type "tuple_iterator", data := .fields #[.ref t, .int 0 0] }).objs.size = s.heap.objs.size + 1 := Heap.size_push ..
  show _ ∧ _
  rw [z]
  have e : IsEnum ((s.heap.push { cls := .type "tuple_iterator", data := .fields #[.ref t, .int 0 0] }).push { cls := .type "enumerate", data := .fields #[.none, .bool false, .ref s.heap.objs.size, rawInt 0, .none, .none] }) (s.heap.objs.size + 1) s.heap.objs.size 0 .none := by
    have q := Heap.get?_push_size (s.heap.push { cls := .type "tuple_iterator", data := .fields #[.ref t, .int 0 0] }) (o := { cls := .type "enumerate", data := .fields #[.none, .bool false, .ref s.heap.objs.size, rawInt 0, .none, .none] }) rfl
    rw [z] at q
    exact q
  exact ⟨⟨_, e, rfl⟩, k _ e ⟨_, Heap.get?_push_of_some _ (Heap.get?_push_size _ rfl), rfl, rfl⟩ fun b o y => Heap.get?_push_of_some _ (Heap.get?_push_of_some _ y)⟩
end
end PySem
namespace FB
open PySem L2 PyProof.Rows
/-- the items of the tuple at a, each behind its number, in a new pair -/
def ItT (K : PySem.W.Frag) (a : Addr) : L2.It where
  go := fun i H => ∃ xs x, SqT K H a xs ∧ xs[i]? = some x
  yld := fun i H v H' => ∃ T x, v = .ref T ∧ H T = none ∧ H' = upd H T (.tup [.int (i : Int), x]) ∧ ∀ xs, SqT K H a xs → xs[i]? = some x
  stop := fun i H => ∃ xs : List V, SqT K H a xs ∧ i = xs.length
theorem turn_tupE {P : Program} {w : World} {K : PySem.W.Frag} {els : List Expr} {kk : Nat} {tp : Pos} (a e it : Addr) :
    Turn P w K (.Tuple els kk tp) (ItT K a) [e, it] e fun i h => (∃ old, IsEnum h e it (i : Int) old) ∧ h.IsTupleIter it a i ∧ e ≠ it ∧ a ≠ it ∧ a ≠ e where
  mem := List.mem_cons_self
  obj := by
    rintro i h ⟨⟨old, he⟩, ⟨o, ho, _, hd⟩, _⟩ b hb
    rcases List.mem_cons.mp hb with z | hb
    · subst z
      exact ⟨_, he, fun v q => by cases q⟩
    · rw [List.mem_singleton.mp hb]
      exact ⟨o, ho, fun v q => by rw [hd] at q; cases q⟩
  keep := by
    rintro i h h' ⟨⟨old, he⟩, hi, n1, n2⟩ k
    exact ⟨⟨old, k e List.mem_cons_self _ he⟩, hi.at fun o q => k it (List.mem_cons_of_mem _ List.mem_cons_self) o q, n1, n2⟩
  item := by
    rintro X rfl rfl rfl hc i pins s σ H E I hf ⟨⟨old, he⟩, hit, n1, n2, n3⟩ ⟨xs, x, hq, hx⟩
    obtain ⟨its, rv, p, hz⟩ := I.tuple hq
    obtain ⟨u, hu, ru⟩ := rv.get hx
    have b1 : e < s.heap.objs.size := Heap.lt_size he
    have b2 : it < s.heap.objs.size := by obtain ⟨_, q, _⟩ := hit; exact Heap.lt_size q
    have hlt : i < its.toArray.size := by
      rw [List.size_toArray]
      exact (List.getElem?_eq_some_iff.mp hu).1
    have nf : e ∉ [it, a] := fun z => by
      rcases List.mem_cons.mp z with z | z
      · exact n1 z
      · exact n3 (List.mem_singleton.mp z).symm
    have pT : s.heap.IsTuple a its.toArray := by obtain ⟨o, q1, q2, q3⟩ := p; exact ⟨o, q1, q2, q3⟩
    refine wpAny_pyNext_enum_itemC (Draws.tuple (A := X.A.in1) (show X.A.in1.handled = none from I.ok.hd hc) it a n2 its.toArray) he ⟨hit, pT⟩ hlt n1 nf fun z h' tk hz2 ho hst hT hsz hk => ?_
    have ez : z = u := by
      have hz2 : its.toArray[i]? = some z := hz2
      rw [List.getElem?_toArray, hu] at hz2
      exact (Option.some.inj hz2).symm
    subst ez
    refine ⟨_, rfl, wpAny_letOwnedTupleGo_enum (s := { s with heap := h', toks := tk + 1 }) ho fun h2 he2 sb => ?_⟩
    have hT2 : h2.get? s.heap.objs.size = some { cls := .type "tuple", data := .seq #[.int (i : Int) tk, z] } := (sb.2 _ (Nat.ne_of_gt b1)).trans hT
    have new : ObjOk X.prog X.w (upd H s.heap.objs.size (.tup [.int (i : Int), x])) h2 s.heap.objs.size (.tup [.int (i : Int), x]) :=
      ⟨by show 2 ≤ sizeLine; decide, [.int (i : Int) tk, z], .cons ⟨_, rfl⟩ (.cons ru .nil), _, hT2, rfl, _, rfl⟩
    have I2 : Inv X pins σ (upd H s.heap.objs.size (.tup [.int (i : Int), x])) { s with heap := h2, toks := tk + 1 } := by
      refine I.turnedNew (ch := [e, it]) (fun b ob hb q => ?_) hf (Nat.le_refl _) new
      have q1 : b ≠ e := fun z => hb (by rw [z]; exact List.mem_cons_self)
      have q2 : b ≠ it := fun z => hb (by rw [z]; exact List.mem_cons_of_mem _ List.mem_cons_self)
      exact (sb.2 b q1).trans (hk b ob q1 q2 q)
    refine ⟨.ref s.heap.objs.size, _, I2, rfl, ⟨_, x, rfl, I.hok.fresh (Nat.le_refl _), rfl, fun ys hy => by rw [I.tuple_inj hy hq]; exact hx⟩, ⟨⟨z, ?_⟩, hst.1.at fun o q => (sb.2 it (Ne.symm n1)).trans q, n1, n2, n3⟩, fun b hb => ?_⟩
    · have e1 : ((i + 1 : Nat) : Int) = (i : Int) + 1 := by omega
      rw [e1]
      exact he2
    · have hb' : b < s.heap.objs.size := by
        rcases List.mem_cons.mp hb with z | z
        · rw [z]; exact b1
        · rw [List.mem_singleton.mp z]; exact b2
      rw [upd_ne (Nat.ne_of_lt hb')]
      exact (hf b hb).1
  done := by
    rintro X rfl rfl rfl hc i pins s σ H E I hf ⟨⟨old, he⟩, hit, n1, n2, n3⟩ ⟨xs, hq, hx⟩
    obtain ⟨its, rv, p, hz⟩ := I.tuple hq
    obtain ⟨f0, f1, f2, f3, f4, f5⟩ := hf it (List.mem_cons_of_mem _ List.mem_cons_self)
    have hl := rv.length
    subst hx
    have e1 : its.toArray.size = xs.length := by rw [List.size_toArray]; omega
    have pT : s.heap.IsTuple a its.toArray := by obtain ⟨o, q1, q2, q3⟩ := p; exact ⟨o, q1, q2, q3⟩
    refine wpAny_pyNext_enum_endD (Draws.tuple (A := X.A.in1) (show X.A.in1.handled = none from I.ok.hd hc) it a n2 its.toArray) he ⟨by rw [e1]; exact hit, pT⟩ fun h' eb => ⟨rfl, I.turned (t' := s.toks) (fun b o hb q => eb b o hb q) f0 f1 f3 f4 f5⟩
  self := fun A i s Q E st h => let ⟨⟨_, he⟩, _⟩ := st; wpAny_pyIter_enum he h
def iEnT (K : PySem.W.Frag) (ta : TA) : TI := fun σ H R => ta σ H fun vs H1 => ∃ a xs, vs = [.ref a] ∧ SqT K H1 a xs ∧ R (ItT K a) H1
theorem pi_enT {X : Cx} {e : Expr} {ta : TA} {p pos tpos : Pos} {els : List Expr} {kk : Nat} (hg : Gl X "enumerate") (hm : X.mg "enumerate" = none) (ha : PA X [e] ta) (hs : starEach [e] X.env = [(false, eval e X.env)] := by rfl) :
    PI X (.Tuple els kk tpos) (.Call (.Name "enumerate" p) [e] [] pos) (iEnT X.K ta) := by
  refine ⟨fun pins s σ H R I h => ?_⟩
  refine Call_ (ld_blt I hg hm boot_enumerate (PyProof.Rows.callWith_type1 (thn (ha.run pos pins s σ H _ I h) fun us s1 ⟨vs, H1, I1, r1, a, xs, ex, hq, q⟩ => ?_) hs rfl))
  subst ex
  cases r1 with
  | cons r rr =>
  cases rr
  cases r
  obtain ⟨its, rv, p', hz⟩ := I1.tuple hq
  have pT : s1.heap.IsTuple a its.toArray := by obtain ⟨o, q1, q2, q3⟩ := p'; exact ⟨o, q1, q2, q3⟩
  have al : a < s1.heap.objs.size := by obtain ⟨o, ho, _⟩ := pT; exact Heap.lt_size ho
  refine fb_callEnumT pT fun h' he hit hk => wpAny_pyIter_enum he ?_
  have I2 : Inv X pins σ H1 { s1 with heap := h' } := I1.kept (t' := s1.toks) hk
  refine ⟨s1.heap.objs.size + 1, [s1.heap.objs.size + 1, s1.heap.objs.size], _, _, H1, rfl, I2, turn_tupE a _ _, ⟨⟨.none, he⟩, hit, Nat.succ_ne_self _, Nat.ne_of_lt al, Nat.ne_of_lt (Nat.lt_succ_of_lt al)⟩, fun b hb => ?_, q⟩
  have hle : s1.heap.objs.size ≤ b := by
    rcases List.mem_cons.mp hb with z | z
    · rw [z]; exact Nat.le_add_right _ _
    · rw [List.mem_singleton.mp z]; exact Nat.le_refl _
  exact I1.fpOk hle (I1.hok.fresh hle)
theorem itT_ok {K : PySem.W.Frag} {cl : Nat → Addr} {P : Hp} {p : Addr} {vs : List V} {ds : List D} (hp : SqT K P p vs) (r : Rss K cl P vs ds) : ItOk K cl P (ItT K p) ((List.range ds.length).zip ds |>.map fun z => .tup [.int (z.1 : Int), z.2]) := fun H ex => by
  refine ⟨⟨vs, ex_t ex hp, ?_⟩, fun i d hd => ?_⟩
  · rw [List.length_map, List.length_zip, List.length_range, r.length, Nat.min_self]
  · rw [List.getElem?_map] at hd
    cases hz : ((List.range ds.length).zip ds)[i]? with
    | none => rw [hz] at hd; cases hd
    | some z =>
      rw [hz] at hd
      cases hd
      obtain ⟨d1, d2⟩ := z
      obtain ⟨h1, h2⟩ := List.getElem?_zip_eq_some.mp hz
      have h1 : d1 = i := by
        rw [List.getElem?_range (by have := (List.getElem?_eq_some_iff.mp h2).1; omega)] at h1
        exact (Option.some.inj h1).symm
      subst h1
      obtain ⟨v, hv, q1⟩ := rss_get r h2
      refine ⟨⟨vs, v, ex_t ex hp, hv⟩, fun x H' ⟨T, x1, e1, hT, e2, y1⟩ L g => ?_⟩
      have hx1 := y1 vs (ex_t ex hp)
      rw [hv] at hx1
      cases hx1
      subst e1 e2
      have g2 : Good K cl P H (shs [.int (d1 : Int), v] [.int (d1 : Int), d2] ++ L) := g.rssP (.cons (.int _) (.cons q1 .nil))
      exact ((g2.alloc hT).packTup rfl).share
section
variable {X : Cx} {cl : Nat → Addr} {W : WX} {pg : Pg} {a : Expr} {ea : E}
theorem ri_enumT {p pos tpos : Pos} {els : List Expr} {kk : Nat} (hm : X.mg "enumerate" = none) (ha : QE X cl W pg a ea) (hg : Gl X "enumerate" := by rfl)
    (hst : starEach [a] X.env = [(false, eval a X.env)] := by rfl) :
    QI X cl W pg (.Tuple els kk tpos) (.Call (.Name "enumerate" p) [a] [] pos) (.enumT ea) :=
  PI.of (pi_enT hg hm (pa_cons ha pa_nil hst) hst) fun σ H Rk ⟨ρ, R, M, s, p⟩ => ⟨ρ, R, M, s, (PostI.bindF [] p).mono fun v H1 ⟨x, N, ρ1, hr, s1, p1⟩ => by
    subst hr
    obtain ⟨d, o⟩ := x
    have s3 : Sta X.K cl σ H1 R ρ1 ([.val v d .sh] ++ M) := Sta.item (N := [.val v d o]) (N' := [.val v d .sh]) s1 fun L g => g.share
    obtain ⟨P1, ex1, q1, s4⟩ := s3.grow
    have exH : Ex P1 H1 := s4.raw
    dsimp only at p1
    cases q1 with
    | @tup q ws e2 e r2 => exact ⟨q, ws, rfl, ex_t exH e, p1 _ H1 P1 ex1 (itT_ok e r2) s4.dropL⟩
    | _ => exact p1.elim⟩
end
end FB
namespace FB
open PySem L2
/-- a type that hangs on x: an argument of it keeps simp from looking into x -/
def Dm {α : Sort u} (_ : α) : Type := Unit
/-! ### the semantics read forward: what a run comes to, a continuation at each end; rules that simp takes at the root -/
def wE (r : Ev DO) (Q : D → O → FEnv → Prop) (X : Exn → FEnv → Prop) (_ : Dm (Q, X) := ()) : Prop := match r with
  | .ok x ρ => Q x.1 x.2 ρ
  | .exc x ρ => X x ρ
  | .stuck => False
def wEs (r : Ev (List DO)) (Q : List D → List O → FEnv → Prop) (X : Exn → FEnv → Prop) (_ : Dm (Q, X) := ()) : Prop := match r with
  | .ok xs ρ => Q (xs.map (·.1)) (xs.map (·.2)) ρ
  | .exc x ρ => X x ρ
  | .stuck => False
def wA (r : Ev (List DO)) (Q : List DO → FEnv → Prop) (X : Exn → FEnv → Prop) (_ : Dm (Q, X) := ()) : Prop := match r with
  | .ok xs ρ => Q xs ρ
  | .exc x ρ => X x ρ
  | .stuck => False
def shD (x : DO) : DO := (x.1, .sh)
/-- arguments, all shared -/
def wA0 (r : Ev (List DO)) (Q : List DO → FEnv → Prop) (X : Exn → FEnv → Prop) (_ : Dm (Q, X) := ()) : Prop := match r with
  | .ok xs ρ => Q (xs.map shD) ρ
  | .exc x ρ => X x ρ
  | .stuck => False
def wT (r : Ev Bool) (Q : Bool → FEnv → Prop) (X : Exn → FEnv → Prop) (_ : Dm (Q, X) := ()) : Prop := match r with
  | .ok x ρ => Q x ρ
  | .exc x ρ => X x ρ
  | .stuck => False
def wI (r : Ev (List D)) (Q : List D → FEnv → Prop) (X : Exn → FEnv → Prop) (_ : Dm (Q, X) := ()) : Prop := match r with
  | .ok x ρ => Q x ρ
  | .exc x ρ => X x ρ
  | .stuck => False
def wF (r : Fl) (N : FEnv → Prop) (R : D → O → FEnv → Prop) (B C : FEnv → Prop) (X : Exn → FEnv → Prop) (_ : Dm (N, R, B, C, X) := ()) : Prop := match r with
  | .nx ρ => N ρ
  | .br ρ => B ρ
  | .ct ρ => C ρ
  | .rt d o ρ => R d o ρ
  | .exc x ρ => X x ρ
  | .stuck => False
def wO {α : Type} (o : Option α) (P : α → Prop) (_ : Dm P := ()) : Prop := match o with
  | some a => P a
  | none => False
def wO2 {α β : Type} (o : Option (α × β)) (P : α → β → Prop) (_ : Dm P := ()) : Prop := match o with
  | some a => P a.1 a.2
  | none => False
def wB (b : Bool) (P : Prop) (_ : Dm P := ()) : Prop := b = true ∧ P
def wGd (p : Prop) (P : Prop) (_ : Dm P := ()) : Prop := p ∧ P
def wIf (b : Bool) (A B : Prop) (_ : Dm (A ∧ B) := ()) : Prop := (b = true → A) ∧ (b = false → B)
def wX (x : Option DO) (P : D → O → Prop) (_ : Dm P := ()) : Prop := match x with
  | some x => P x.1 x.2
  | none => False
def wG (ρ : FEnv) (i : Nat) (P : D → O → Prop) (_ : Dm P := ()) : Prop := match ρ[i]? with
  | some (some x) => P x.1 x.2
  | _ => False
def wNo (ρ : FEnv) (i : Nat) (P : Prop) (_ : Dm P := ()) : Prop := match ρ[i]? with
  | some none => P
  | _ => False
def wS (ρ : FEnv) (i : Nat) (x : Option DO) (P : FEnv → Prop) (_ : Dm P := ()) : Prop := P (ρ.set i x)
def shX (x : Option DO) : Option DO := x.map fun y => (y.1, .sh)
def wSh (ρ : FEnv) (P : FEnv → Prop) (_ : Dm P := ()) : Prop := P (sharedEnv ρ)
def wMk (os os0 : List O) (P : O → Prop) (_ : Dm P := ()) : Prop := P (if os.all O.isSh then .root else .node os0)
def wLe {α : Type} (xs : List α) (n : Nat) (P : Prop) (_ : Dm P := ()) : Prop := xs.length ≤ n ∧ P
def wBl (d : D) (P : Bool → Prop) (_ : Dm P := ()) : Prop := match d with
  | .bl b => P b
  | _ => False
def wInt (d : D) (P : Int → Prop) (_ : Dm P := ()) : Prop := match d with
  | .int b => P b
  | _ => False
def wStr (d : D) (P : Str → Prop) (_ : Dm P := ()) : Prop := match d with
  | .str b => P b
  | _ => False
def wTup (d : D) (P : List D → Prop) (_ : Dm P := ()) : Prop := match d with
  | .tup b => P b
  | _ => False
def wLst (d : D) (P : List D → Prop) (_ : Dm P := ()) : Prop := match d with
  | .lst b => P b
  | _ => False
def wFlat (d : D) (P : Prop) (_ : Dm P := ()) : Prop := d.flat = true ∧ P
def wWp (ρ : FEnv) (js : List Nat) (P : FEnv → Prop) (_ : Dm P := ()) : Prop := P (wipeE ρ js)
def wLL (r : Ev (List D)) (P : List D → FEnv → Prop) (_ : Dm P := ()) : Prop := match r with
  | .ok ds ρ => P ds ρ
  | _ => False
def wR (r : Rt) (bk : List (Option Nat)) (ρ : FEnv) (Q : D → O → FEnv → Prop) (X : Exn → FEnv → Prop) (_ : Dm (Q, X) := ()) : Prop := wE (ofRt bk ρ r) Q X
def wTg (js : List Nat) (tp : Bool) (d : D) (ρ : FEnv) (P : FEnv → Prop) (_ : Dm P := ()) : Prop := match bindTg js tp d ρ with
  | some ρ' => P ρ'
  | none => False
/-- a tuple's targets, one by one -/
def wTs (js : List Nat) (ds : List D) (ρ : FEnv) (P : FEnv → Prop) (_ : Dm P := ()) : Prop := js.length = ds.length ∧ P ((js.zip ds).foldl (fun ρ x => ρ.set x.1 (some (x.2, .sh))) ρ)
def wAt (o : Option DO) (P : D → Prop) (_ : Dm P := ()) : Prop := match o with
  | some (d, .root) => P d
  | _ => False
def wFin (ρ : FEnv) (io : List Nat) (P : List DO → Prop) (_ : Dm P := ()) : Prop := match finIo ρ io with
  | some l => P l
  | none => False
/-! no look behind -/
/-! small rules -/
theorem wE_eq {r : Ev DO} {Q Q' : D → O → FEnv → Prop} {X : Exn → FEnv → Prop} (h : ∀ d o ρ, Q d o ρ = Q' d o ρ) : wE r Q X = wE r Q' X := by
  have e : Q = Q' := by funext d o ρ; exact h d o ρ
  subst e; rfl
theorem wA_eq {r : Ev (List DO)} {Q Q' : List DO → FEnv → Prop} {X : Exn → FEnv → Prop} (h : ∀ d ρ, Q d ρ = Q' d ρ) : wA r Q X = wA r Q' X := by
  have e : Q = Q' := by funext d ρ; exact h d ρ
  subst e; rfl
theorem wT_eq {r : Ev Bool} {Q Q' : Bool → FEnv → Prop} {X : Exn → FEnv → Prop} (h : ∀ d ρ, Q d ρ = Q' d ρ) : wT r Q X = wT r Q' X := by
  have e : Q = Q' := by funext d ρ; exact h d ρ
  subst e; rfl
theorem wI_eq {r : Ev (List D)} {Q Q' : List D → FEnv → Prop} {X : Exn → FEnv → Prop} (h : ∀ d ρ, Q d ρ = Q' d ρ) : wI r Q X = wI r Q' X := by
  have e : Q = Q' := by funext d ρ; exact h d ρ
  subst e; rfl
theorem wO_eq {α : Type} {r : Option α} {Q Q' : α → Prop} (h : ∀ d, Q d = Q' d) : wO r Q = wO r Q' := by
  have e : Q = Q' := by funext d; exact h d
  subst e; rfl
theorem wO_some {α : Type} {a : α} {P : α → Prop} : wO (some a) P = P a := (rfl)
theorem wO2_some {α β : Type} {a : α} {b : β} {P : α → β → Prop} : wO2 (some (a, b)) P = P a b := (rfl)
theorem wB_true {P : Prop} : wB true P = P := by simp [wB]
theorem wGd_true {P : Prop} : wGd True P = P := by simp [wGd]
theorem wGd_of {p P : Prop} (h : p) : wGd p P = P := by simp [wGd, h]
theorem wIf_true {A B : Prop} : wIf true A B = A := by simp [wIf]
theorem wIf_false {A B : Prop} : wIf false A B = B := by simp [wIf]
theorem wIf_t {p : Prop} [Decidable p] {A B : Prop} (h : p) : wIf (decide p) A B = A := by simp [wIf, h]
theorem wIf_f {p : Prop} [Decidable p] {A B : Prop} (h : ¬p) : wIf (decide p) A B = B := by simp [wIf, h]
theorem wIf_not {b : Bool} {A B : Prop} : wIf (!b) A B = wIf b B A := by cases b <;> simp [wIf]
theorem wIf_and {a b : Bool} {A B : Prop} : wIf (a && b) A B = wIf a (wIf b A B) B := by cases a <;> cases b <;> simp [wIf]
theorem wIf_or {a b : Bool} {A B : Prop} : wIf (a || b) A B = wIf a A (wIf b A B) := by cases a <;> cases b <;> simp [wIf]
theorem wIf_ne {i j : Int} {A B : Prop} : wIf (i != j) A B = wIf (decide (i = j)) B A := by by_cases h : i = j <;> simp [wIf, h]
theorem wIf_dec {p : Prop} [Decidable p] {A B : Prop} (h1 : p → A) (h2 : ¬p → B) : wIf (decide p) A B := by
  refine ⟨fun h => h1 (of_decide_eq_true h), fun h => h2 (of_decide_eq_false h)⟩
theorem wIf_b {b : Bool} {A B : Prop} (h1 : b = true → A) (h2 : b = false → B) : wIf b A B := ⟨h1, h2⟩
theorem wX_some {d : D} {o : O} {P : D → O → Prop} : wX (some (d, o)) P = P d o := (rfl)
theorem wX_sh {x : Option DO} {P : D → O → Prop} : wX (shX x) P = wX x fun d _ => P d .sh := by cases x <;> rfl
theorem wG_0 {x : Option DO} {ρ : FEnv} {P : D → O → Prop} : wG (x :: ρ) 0 P = wX x P := by cases x <;> rfl
theorem wG_s {x : Option DO} {ρ : FEnv} {i : Nat} {P : D → O → Prop} : wG (x :: ρ) (i + 1) P = wG ρ i P := (rfl)
theorem wNo_0 {ρ : FEnv} {P : Prop} : wNo (none :: ρ) 0 P = P := (rfl)
theorem wNo_s {x : Option DO} {ρ : FEnv} {i : Nat} {P : Prop} : wNo (x :: ρ) (i + 1) P = wNo ρ i P := (rfl)
theorem wS_0 {x y : Option DO} {ρ : FEnv} {P : FEnv → Prop} : wS (y :: ρ) 0 x P = P (x :: ρ) := (rfl)
theorem wS_s {x y : Option DO} {ρ : FEnv} {i : Nat} {P : FEnv → Prop} : wS (y :: ρ) (i + 1) x P = wS ρ i x fun ρ' => P (y :: ρ') := (rfl)
theorem wSh_nil {P : FEnv → Prop} : wSh [] P = P [] := (rfl)
theorem wSh_none {ρ : FEnv} {P : FEnv → Prop} : wSh (none :: ρ) P = wSh ρ fun ρ' => P (none :: ρ') := (rfl)
theorem wSh_some {d : D} {o : O} {ρ : FEnv} {P : FEnv → Prop} : wSh (some (d, o) :: ρ) P = wSh ρ fun ρ' => P (some (d, .sh) :: ρ') := (rfl)
theorem wSh_cons {x : Option DO} {ρ : FEnv} {P : FEnv → Prop} : wSh (x :: ρ) P = wSh ρ fun ρ' => P (shX x :: ρ') := (rfl)
theorem wMk_nil {os0 : List O} {P : O → Prop} : wMk [] os0 P = P .root := (rfl)
theorem wMk_sh {os os0 : List O} {P : O → Prop} : wMk (.sh :: os) os0 P = wMk os os0 P := by simp [wMk, O.isSh]
theorem wMk_root {os os0 : List O} {P : O → Prop} : wMk (.root :: os) os0 P = P (.node os0) := by simp [wMk, O.isSh]
theorem wMk_node {os os0 l : List O} {P : O → Prop} : wMk (.node l :: os) os0 P = P (.node os0) := by simp [wMk, O.isSh]
theorem wLe_nil {α : Type} {n : Nat} {P : Prop} : wLe ([] : List α) n P = P := by simp [wLe]
theorem wLe_cons {α : Type} {x : α} {xs : List α} {n : Nat} {P : Prop} : wLe (x :: xs) (n + 1) P = wLe xs n P := by simp [wLe]
theorem wBl_bl {b : Bool} {P : Bool → Prop} : wBl (.bl b) P = P b := (rfl)
theorem wInt_int {b : Int} {P : Int → Prop} : wInt (.int b) P = P b := (rfl)
theorem wStr_str {b : Str} {P : Str → Prop} : wStr (.str b) P = P b := (rfl)
theorem wTup_tup {b : List D} {P : List D → Prop} : wTup (.tup b) P = P b := (rfl)
theorem wLst_lst {b : List D} {P : List D → Prop} : wLst (.lst b) P = P b := (rfl)
theorem wFlat_non {P : Prop} : wFlat .non P = P := by simp [wFlat, D.flat]
theorem wFlat_bl {b : Bool} {P : Prop} : wFlat (.bl b) P = P := by simp [wFlat, D.flat]
theorem wFlat_int {b : Int} {P : Prop} : wFlat (.int b) P = P := by simp [wFlat, D.flat]
theorem wFlat_str {b : Str} {P : Prop} : wFlat (.str b) P = P := by simp [wFlat, D.flat]
theorem wWp_nil {ρ : FEnv} {P : FEnv → Prop} : wWp ρ [] P = P ρ := (rfl)
theorem wWp_cons {ρ : FEnv} {j : Nat} {js : List Nat} {P : FEnv → Prop} : wWp ρ (j :: js) P = wWp ρ js fun ρ' => wS ρ' j none P := (rfl)
theorem wLL_ok {ds : List D} {ρ : FEnv} {P : List D → FEnv → Prop} : wLL (.ok ds ρ) P = P ds ρ := (rfl)
theorem wE_ok {d : D} {o : O} {ρ : FEnv} {Q : D → O → FEnv → Prop} {X : Exn → FEnv → Prop} : wE (.ok (d, o) ρ) Q X = Q d o ρ := (rfl)
theorem wR_ok0 {d : D} {o : O} {ρ : FEnv} {Q : D → O → FEnv → Prop} {X : Exn → FEnv → Prop} : wR (.ok d o []) [] ρ Q X = Q d o ρ := (rfl)
theorem wR_exc0 {x : Exn} {ρ : FEnv} {Q : D → O → FEnv → Prop} {X : Exn → FEnv → Prop} : wR (.exc x []) [] ρ Q X = X x ρ := (rfl)
theorem wR_ok1 {d : D} {o : O} {x : DO} {j : Nat} {ρ : FEnv} {Q : D → O → FEnv → Prop} {X : Exn → FEnv → Prop} : wR (.ok d o [x]) [some j] ρ Q X = wNo ρ j (wS ρ j (some x) fun ρ' => Q d o ρ') := by
  unfold wR wNo wS
  show wE (match backIo [some j] [x] ρ with | some ρ' => .ok (d, o) ρ' | none => .stuck) Q X = _
  cases e : ρ[j]? with
  | none => simp [backIo, e, wE]
  | some y => cases y <;> simp [backIo, e, wE]
theorem wR_exc1 {x : Exn} {y : DO} {j : Nat} {ρ : FEnv} {Q : D → O → FEnv → Prop} {X : Exn → FEnv → Prop} : wR (.exc x [y]) [some j] ρ Q X = wNo ρ j (wS ρ j (some y) fun ρ' => X x ρ') := by
  unfold wR wNo wS
  show wE (match backIo [some j] [y] ρ with | some ρ' => .exc x ρ' | none => .stuck) Q X = _
  cases e : ρ[j]? with
  | none => simp [backIo, e, wE]
  | some y => cases y <;> simp [backIo, e, wE]
theorem wTg_1 {j : Nat} {d : D} {ρ : FEnv} {P : FEnv → Prop} : wTg [j] false d ρ P = wS ρ j (some (d, .sh)) P := (rfl)
theorem wTg_t {js : List Nat} {ds : List D} {ρ : FEnv} {P : FEnv → Prop} : wTg js true (.tup ds) ρ P = wTs js ds ρ P := by
  unfold wTg wTs
  have e : bindTg js true (.tup ds) ρ = if js.length = ds.length then some ((js.zip ds).foldl (fun ρ x => ρ.set x.1 (some (x.2, .sh))) ρ) else none := by
    match js with
    | [] => rfl
    | [_] => rfl
    | _ :: _ :: _ => rfl
  rw [e]
  by_cases h : js.length = ds.length
  · simp [h]
  · simp [h]
theorem wTs_nil {ρ : FEnv} {P : FEnv → Prop} : wTs [] [] ρ P = P ρ := by simp [wTs]
theorem wTs_cons {j : Nat} {js : List Nat} {d : D} {ds : List D} {ρ : FEnv} {P : FEnv → Prop} : wTs (j :: js) (d :: ds) ρ P = wS ρ j (some (d, .sh)) fun ρ' => wTs js ds ρ' P := by simp [wTs, wS]
theorem wAt_root {d : D} {P : D → Prop} : wAt (some (d, .root)) P = P d := (rfl)
theorem wFin_nil {ρ : FEnv} {P : List DO → Prop} : wFin ρ [] P = P [] := (rfl)
theorem wFin_1 {ρ : FEnv} {j : Nat} {P : List DO → Prop} : wFin ρ [j] P = wG ρ j fun d o => P [(d, o)] := by
  unfold wFin wG
  cases e : ρ[j]? with
  | none => simp [finIo, e]
  | some y => cases y <;> simp [finIo, e]
end FB
namespace FB
open PySem L2
section
variable {pg : Pg} {e a b c : E} {es : Es} {t ta tb : T} {ρ : FEnv} {Q : D → O → FEnv → Prop} {X : Exn → FEnv → Prop} {i : Nat}
theorem wE_bindE {r : Ev DO} {f : DO → FEnv → Ev DO} : wE (r.bind f) Q X = wE r (fun d o ρ => wE (f (d, o) ρ) Q X) X := by cases r <;> rfl
theorem wE_bindEs {r : Ev (List DO)} {f : List DO → FEnv → Ev DO} : wE (r.bind f) Q X = wA r (fun xs ρ => wE (f xs ρ) Q X) X := by cases r <;> rfl
theorem wE_bindT {r : Ev Bool} {f : Bool → FEnv → Ev DO} : wE (r.bind f) Q X = wT r (fun xs ρ => wE (f xs ρ) Q X) X := by cases r <;> rfl
theorem wE_bindI {r : Ev (List D)} {f : List D → FEnv → Ev DO} : wE (r.bind f) Q X = wI r (fun xs ρ => wE (f xs ρ) Q X) X := by cases r <;> rfl
theorem wE_opt {α : Type} {o : Option α} {f : α → Ev DO} : wE (opt o ρ f) Q X = wO o fun x => wE (f x) Q X := by cases o <;> rfl
theorem wA_of {r : Ev (List DO)} {Q : List D → List O → FEnv → Prop} : wA r (fun xs ρ => Q (xs.map (·.1)) (xs.map (·.2)) ρ) X = wEs r Q X := by cases r <;> rfl
theorem wO_2 {α β : Type} {o : Option (α × β)} {P : α → β → Prop} : wO o (fun z => P z.1 z.2) = wO2 o P := by cases o <;> rfl
theorem r_v : wE (evE pg (.v i) ρ) Q X = wG ρ i fun d _ => wS ρ i (some (d, .sh)) fun ρ' => Q d .sh ρ' := by
  show wE (rdV i ρ) Q X = _
  unfold rdV wG wS
  split
  · rename_i d h
    rw [h]
    have : ρ.set i (some (d, .sh)) = ρ := by
      apply List.ext_getElem?
      intro j
      rw [List.getElem?_set]
      split
      · rename_i hj
        subst hj
        split
        · exact h.symm
        · rename_i h2
          rw [List.getElem?_eq_none (by omega)]
      · rfl
    simp only [this]
    rfl
  · rename_i d o _ h
    rw [h]
    rfl
  · rename_i h1 h2
    split
    · rename_i h3
      exact absurd h3 (h2 _ _)
    · rfl
theorem r_hold : wE (evE pg (.hold i) ρ) Q X = wG ρ i fun d o => wS ρ i none fun ρ' => Q d o ρ' := by
  show wE (match ρ[i]? with
    | some (some x) => Ev.ok x (ρ.set i none)
    | _ => Ev.stuck) Q X = _
  unfold wG wS
  cases e : ρ[i]? with
  | none => rfl
  | some y => cases y <;> rfl
theorem r_kN : wE (evE pg (.k .none) ρ) Q X = Q .non .sh ρ := (rfl)
theorem r_kB {v : Bool} : wE (evE pg (.k (.bool v)) ρ) Q X = Q (.bl v) .sh ρ := (rfl)
theorem r_kI {v : Int} : wE (evE pg (.k (.int v)) ρ) Q X = Q (.int v) .sh ρ := (rfl)
theorem r_kS {v : Str} : wE (evE pg (.k (.str v)) ρ) Q X = Q (.str v) .sh ρ := (rfl)
theorem r_g : wE (evE pg (.g i) ρ) Q X = Q (pg.gl i) .sh ρ := (rfl)
theorem r_bor : wE (evE pg (.bor e) ρ) Q X = wSh ρ fun ρs => wE (evE pg e ρs) (fun d _ _ => wFlat d (Q d .sh ρ)) (fun x _ => X x ρ) := by
  rw [evE]
  simp only [wSh]
  cases evE pg e (sharedEnv ρ) with
  | ok x ρ1 =>
    obtain ⟨d, o⟩ := x
    simp only [wE, wFlat]
    cases d.flat <;> simp
  | exc x ρ1 => rfl
  | stuck => rfl
theorem r_rd {f : Str} : wE (evE pg (.rd i f) ρ) Q X = wE (rdF pg.att i f ρ) Q X := (rfl)
theorem r_ixv : wE (evE pg (.ixv i e) ρ) Q X = wE (evE pg e ρ) (fun y _ ρ1 => wE (match ρ1[i]? with
    | some (some (d, .sh)) => opt (ixD d y) ρ1 fun z => .ok (z, .sh) ρ1
    | some (some (d, .root)) => opt (ixD d y) ρ1 fun z => .ok (z, .sh) ρ1
    | _ => .stuck) Q X) X := wE_bindE
theorem r_bin {op : Operator} : wE (evE pg (.bin op a b) ρ) Q X = wE (evE pg a ρ) (fun x _ ρ1 => wE (evE pg b ρ1) (fun y _ ρ2 => wO2 (binD op x y) fun z o => Q z o ρ2) X) X := by
  rw [evE, wE_bindE]
  refine wE_eq fun x o ρ1 => ?_
  rw [wE_bindE]
  refine wE_eq fun y o ρ2 => ?_
  cases binD op x y <;> rfl
theorem r_un {op : UnaryOp} : wE (evE pg (.un op a) ρ) Q X = wE (evE pg a ρ) (fun x _ ρ1 => wO (unD op x) fun z => Q z .sh ρ1) X := by
  rw [evE, wE_bindE]
  refine wE_eq fun x o ρ1 => ?_
  cases unD op x <;> rfl
theorem r_bnot : wE (evE pg (.bnot a) ρ) Q X = wE (evE pg a ρ) (fun x _ ρ1 => wBl x fun b => Q (.bl (!b)) .sh ρ1) X := by
  rw [evE, wE_bindE]
  refine wE_eq fun x o ρ1 => ?_
  cases x <;> rfl
theorem r_band : wE (evE pg (.band a b) ρ) Q X = wE (evE pg a ρ) (fun x _ ρ1 => wBl x fun c => wIf c (wE (evE pg b ρ1) Q X) (Q (.bl false) .sh ρ1)) X := by
  rw [evE, wE_bindE]
  refine wE_eq fun x o ρ1 => ?_
  cases x with
  | bl c => cases c <;> simp [wBl, wIf_true, wIf_false, wE]
  | _ => rfl
theorem r_bor2 : wE (evE pg (.bor2 a b) ρ) Q X = wE (evE pg a ρ) (fun x _ ρ1 => wBl x fun c => wIf c (Q (.bl true) .sh ρ1) (wE (evE pg b ρ1) Q X)) X := by
  rw [evE, wE_bindE]
  refine wE_eq fun x o ρ1 => ?_
  cases x with
  | bl c => cases c <;> simp [wBl, wIf_true, wIf_false, wE]
  | _ => rfl
theorem r_cmp {op : CmpOp} : wE (evE pg (.cmp op a b) ρ) Q X = wE (evE pg a ρ) (fun x _ ρ1 => wE (evE pg b ρ1) (fun y _ ρ2 => wO (cmpD op x y) fun z => Q (.bl z) .sh ρ2) X) X := by
  rw [evE, wE_bindE]
  refine wE_eq fun x o ρ1 => ?_
  rw [wE_bindE]
  refine wE_eq fun y o ρ2 => ?_
  cases cmpD op x y <;> rfl
theorem r_chain {o1 o2 : CmpOp} : wE (evE pg (.chain o1 o2 a b c) ρ) Q X = wE (evE pg a ρ) (fun x _ ρ1 => wE (evE pg b ρ1) (fun y _ ρ2 => wO (cmpD o1 x y) fun r => wIf r (wE (evE pg c ρ2) (fun z _ ρ3 => wO (cmpD o2 y z) fun r2 => Q (.bl r2) .sh ρ3) X) (Q (.bl false) .sh ρ2)) X) X := by
  rw [evE, wE_bindE]
  refine wE_eq fun x o ρ1 => ?_
  rw [wE_bindE]
  refine wE_eq fun y o ρ2 => ?_
  rw [wE_opt]
  refine wO_eq fun r => ?_
  cases r with
  | true =>
    rw [wIf_true, if_pos rfl, wE_bindE]
    refine wE_eq fun z o ρ3 => ?_
    cases cmpD o2 y z <;> rfl
  | false => rw [wIf_false]; rfl
theorem r_ife : wE (evE pg (.ife t a b) ρ) Q X = wT (evT pg t ρ) (fun c ρ1 => wIf c (wE (evE pg a ρ1) Q X) (wE (evE pg b ρ1) Q X)) X := by
  rw [evE, wE_bindT]
  refine wT_eq fun c ρ1 => ?_
  cases c <;> simp [wIf_true, wIf_false]
theorem rs_nilE {Q : List D → List O → FEnv → Prop} : wEs (evEs pg .nil ρ) Q X = Q [] [] ρ := (rfl)
theorem rs_consE {Q : List D → List O → FEnv → Prop} : wEs (evEs pg (.cons e es) ρ) Q X = wE (evE pg e ρ) (fun d o ρ1 => wEs (evEs pg es ρ1) (fun ds os ρ2 => Q (d :: ds) (o :: os) ρ2) X) X := by
  rw [evEs]
  cases evE pg e ρ with
  | ok x ρ1 =>
    simp only [Ev.bind, wE]
    cases evEs pg es ρ1 <;> simp [wEs, Ev.bind, shD]
  | exc x ρ1 => rfl
  | stuck => rfl
theorem ra_nilE {Q : List DO → FEnv → Prop} : wA (evEs pg .nil ρ) Q X = Q [] ρ := (rfl)
theorem ra_consE {Q : List DO → FEnv → Prop} : wA (evEs pg (.cons e es) ρ) Q X = wE (evE pg e ρ) (fun d o ρ1 => wA (evEs pg es ρ1) (fun xs ρ2 => Q ((d, o) :: xs) ρ2) X) X := by
  rw [evEs]
  cases evE pg e ρ with
  | ok x ρ1 =>
    show wA ((evEs pg es ρ1).bind _) Q X = wA (evEs pg es ρ1) _ X
    cases evEs pg es ρ1 <;> rfl
  | exc x ρ1 => rfl
  | stuck => rfl
theorem r0_nilE {Q : List DO → FEnv → Prop} : wA0 (evEs pg .nil ρ) Q X = Q [] ρ := (rfl)
theorem r0_consE {Q : List DO → FEnv → Prop} : wA0 (evEs pg (.cons e es) ρ) Q X = wE (evE pg e ρ) (fun d _ ρ1 => wA0 (evEs pg es ρ1) (fun xs ρ2 => Q ((d, .sh) :: xs) ρ2) X) X := by
  rw [evEs]
  cases evE pg e ρ with
  | ok x ρ1 =>
    simp only [Ev.bind, wE]
    cases evEs pg es ρ1 <;> simp [wA0, Ev.bind, shD]
  | exc x ρ1 => rfl
  | stuck => rfl
theorem all_sh {xs : List DO} : (xs.map (·.2)).all O.isSh = xs.all fun x => x.2.isSh := by rw [List.all_map]; rfl
theorem r_lst : wE (evE pg (.lst es) ρ) Q X = wEs (evEs pg es ρ) (fun ds os ρ1 => wLe ds 10000 (wMk os os fun o => Q (.lst ds) o ρ1)) X := by
  rw [evE, wE_bindEs, ← wA_of]
  refine wA_eq fun xs ρ1 => ?_
  unfold wLe wMk mkO
  rw [List.length_map]
  by_cases h : xs.length ≤ 10000
  · rw [if_pos h]; simp [h, wE]
  · rw [if_neg h]; simp [h, wE]
theorem r_tup : wE (evE pg (.tup es) ρ) Q X = wEs (evEs pg es ρ) (fun ds os ρ1 => wLe ds 10000 (wMk os os fun o => Q (.tup ds) o ρ1)) X := by
  rw [evE, wE_bindEs, ← wA_of]
  refine wA_eq fun xs ρ1 => ?_
  unfold wLe wMk mkO
  rw [List.length_map]
  by_cases h : xs.length ≤ 10000
  · rw [if_pos h]; simp [h, wE]
  · rw [if_neg h]; simp [h, wE]
theorem r_dic0 : wE (evE pg (.dic [] .nil) ρ) Q X = Q (.dic [] []) .root ρ := (rfl)
theorem r_ix : wE (evE pg (.ix a b) ρ) Q X = wE (evE pg a ρ) (fun x _ ρ1 => wE (evE pg b ρ1) (fun y _ ρ2 => wO (ixD x y) fun z => Q z .sh ρ2) X) X := by
  rw [evE, wE_bindE]
  refine wE_eq fun x o ρ1 => ?_
  rw [wE_bindE]
  refine wE_eq fun y o ρ2 => ?_
  cases ixD x y <;> rfl
theorem r_sl00 {lo hi : E} : wE (evE pg (.sl a false lo false hi) ρ) Q X = wE (evE pg a ρ) (fun x _ ρ1 => wO2 (slD x none none) fun z o => Q z o ρ1) X := by
  rw [evE, wE_bindE]
  refine wE_eq fun x o ρ1 => ?_
  simp only [Bool.false_eq_true, if_false, Ev.bind]
  cases slD x none none <;> rfl
theorem r_sl10 {lo hi : E} : wE (evE pg (.sl a true lo false hi) ρ) Q X = wE (evE pg a ρ) (fun x _ ρ1 => wE (evE pg lo ρ1) (fun y _ ρ2 => wInt y fun i => wO2 (slD x (some i) none) fun z o => Q z o ρ2) X) X := by
  rw [evE, wE_bindE]
  refine wE_eq fun x o ρ1 => ?_
  simp only [if_true, Bool.false_eq_true, if_false]
  cases evE pg lo ρ1 with
  | ok y ρ2 =>
    obtain ⟨y, oy⟩ := y
    cases y with
    | int i =>
      simp only [Ev.bind, wE_ok, wInt]
      cases slD x (some i) none <;> rfl
    | _ => rfl
  | exc y ρ2 => rfl
  | stuck => rfl
theorem r_sl01 {lo hi : E} : wE (evE pg (.sl a false lo true hi) ρ) Q X = wE (evE pg a ρ) (fun x _ ρ1 => wE (evE pg hi ρ1) (fun y _ ρ2 => wInt y fun i => wO2 (slD x none (some i)) fun z o => Q z o ρ2) X) X := by
  rw [evE, wE_bindE]
  refine wE_eq fun x o ρ1 => ?_
  simp only [if_true, Bool.false_eq_true, if_false, Ev.bind]
  cases evE pg hi ρ1 with
  | ok y ρ2 =>
    obtain ⟨y, oy⟩ := y
    cases y with
    | int i =>
      simp only [wE_ok, wInt]
      cases slD x none (some i) <;> rfl
    | _ => rfl
  | exc y ρ2 => rfl
  | stuck => rfl
theorem r_sl11 {lo hi : E} : wE (evE pg (.sl a true lo true hi) ρ) Q X = wE (evE pg a ρ) (fun x _ ρ1 => wE (evE pg lo ρ1) (fun y _ ρ2 => wInt y fun i => wE (evE pg hi ρ2) (fun y2 _ ρ3 => wInt y2 fun j => wO2 (slD x (some i) (some j)) fun z o => Q z o ρ3) X) X) X := by
  rw [evE, wE_bindE]
  refine wE_eq fun x o ρ1 => ?_
  simp only [if_true]
  cases evE pg lo ρ1 with
  | ok y ρ2 =>
    obtain ⟨y, oy⟩ := y
    cases y with
    | int i =>
      simp only [Ev.bind, wE_ok, wInt]
      cases evE pg hi ρ2 with
      | ok y2 ρ3 =>
        obtain ⟨y2, oy2⟩ := y2
        cases y2 with
        | int j =>
          simp only [wE_ok, wInt]
          cases slD x (some i) (some j) <;> rfl
        | _ => rfl
      | exc y ρ2 => rfl
      | stuck => rfl
    | _ => rfl
  | exc y ρ2 => rfl
  | stuck => rfl
/-- a field of a datum -/
def fldO (att : Nat → Str → Bool) (d : D) (f : Str) : Option D := match d with
  | .obj c fs ds => if att c f then lookF fs ds f else none
  | _ => none
theorem r_fld {f : Str} : wE (evE pg (.fld a f) ρ) Q X = wE (evE pg a ρ) (fun x _ ρ1 => wO (fldO pg.att x f) fun z => Q z .sh ρ1) X := by
  rw [evE, wE_bindE]
  refine wE_eq fun x o ρ1 => ?_
  cases x with
  | obj c fs ds =>
    show wE (if pg.att c f then _ else _) Q X = wO (if pg.att c f then _ else _) _
    cases pg.att c f with
    | true =>
      rw [if_pos rfl, if_pos rfl]
      cases lookF fs ds f <;> rfl
    | false => rfl
  | _ => rfl
theorem r_bi {f : Bi} : wE (evE pg (.bi f es) ρ) Q X = wEs (evEs pg es ρ) (fun ds _ ρ1 => wO2 (biD f ds) fun z o => Q z o ρ1) X := by
  rw [evE, wE_bindEs, ← wA_of]
  refine wA_eq fun xs ρ1 => ?_
  cases biD f (xs.map (·.1)) <;> rfl
theorem r_bm {m : Bm} : wE (evE pg (.bm m a es) ρ) Q X = wE (evE pg a ρ) (fun x _ ρ1 => wB (bmTy m x) (wEs (evEs pg es ρ1) (fun ds _ ρ2 => wO2 (bmD m x ds) fun z o => Q z o ρ2) X)) X := by
  rw [evE, wE_bindE]
  refine wE_eq fun x o ρ1 => ?_
  cases h : bmTy m x with
  | true =>
    simp only [h, if_true, wB_true]
    rw [wE_bindEs, ← wA_of]
    refine wA_eq fun xs ρ1 => ?_
    cases bmD m x (xs.map (·.1)) <;> rfl
  | false => simp [wB, wE, h]
theorem r_kget {c : Int} : wE (evE pg (.kget i e c) ρ) Q X = wE (evE pg e ρ) (fun y _ ρ1 => wStr y fun s => Q (.int (((pg.tb i).lookup s).getD c)) .sh ρ1) X := by
  rw [evE, wE_bindE]
  refine wE_eq fun x o ρ1 => ?_
  cases x <;> rfl
theorem r_isi {t : Ty} : wE (evE pg (.isi a t) ρ) Q X = wE (evE pg a ρ) (fun x _ ρ1 => wO (pg.isk (kdOf x) t) fun b => Q (.bl b) .sh ρ1) X := by
  rw [evE, wE_bindE]
  refine wE_eq fun x o ρ1 => ?_
  cases pg.isk (kdOf x) t <;> rfl
theorem r_lc {js : List Nat} {tp : Bool} {it : It} {hc : Bool} : wE (evE pg (.lc js tp it t hc e) ρ) Q X = wI (evI pg it ρ) (fun ds ρ1 => wGd (ds.length ≤ 1000000) (wWp ρ1 js fun ρ2 => wLL (lcLoop (lcBody js tp (if hc then some (evT pg t) else none) (evE pg e)) ds ρ2) fun r ρ5 => Q (.lst r) .root ρ5)) X := by
  rw [evE, wE_bindI]
  refine wI_eq fun ds ρ1 => ?_
  unfold wGd wWp
  by_cases h : ds.length ≤ 1000000
  · rw [if_pos h]
    simp only [h, true_and]
    unfold wLL wE
    cases lcLoop (lcBody js tp (if hc then some (evT pg t) else none) (evE pg e)) ds (wipeE ρ1 js) <;> rfl
  · rw [if_neg h]
    simp [h, wE]
theorem r_lc0 {js : List Nat} {tp : Bool} {it : It} : wE (evE pg (.lc js tp it t false e) ρ) Q X = wI (evI pg it ρ) (fun ds ρ1 => wGd (ds.length ≤ 1000000) (wWp ρ1 js fun ρ2 => wLL (lcLoop (lcBody js tp none (evE pg e)) ds ρ2) fun r ρ5 => Q (.lst r) .root ρ5)) X := r_lc
theorem r_lc1 {js : List Nat} {tp : Bool} {it : It} : wE (evE pg (.lc js tp it t true e) ρ) Q X = wI (evI pg it ρ) (fun ds ρ1 => wGd (ds.length ≤ 1000000) (wWp ρ1 js fun ρ2 => wLL (lcLoop (lcBody js tp (some (evT pg t)) (evE pg e)) ds ρ2) fun r ρ5 => Q (.lst r) .root ρ5)) X := r_lc
theorem ll_nil {b : D → FEnv → Ev (Option D)} {P : List D → FEnv → Prop} : wLL (lcLoop b [] ρ) P = P [] ρ := (rfl)
theorem ll_cons0 {js : List Nat} {tp : Bool} {ee : FEnv → Ev DO} {d : D} {ds : List D} {P : List D → FEnv → Prop} : wLL (lcLoop (lcBody js tp none ee) (d :: ds) ρ) P = wTg js tp d ρ fun ρ2 => wE (ee ρ2) (fun x _ ρ3 => wWp ρ3 js fun ρ4 => wLL (lcLoop (lcBody js tp none ee) ds ρ4) fun r ρ5 => P (x :: r) ρ5) fun _ _ => False := by
  rw [lcLoop]
  unfold wTg wWp
  have e : lcBody js tp none ee d ρ = match bindTg js tp d ρ with
    | some ρ2 => (ee ρ2).bind fun x ρ4 => .ok (some x.1) (wipeE ρ4 js)
    | none => .stuck := rfl
  rw [e]
  cases bindTg js tp d ρ with
  | none => rfl
  | some ρ2 =>
    simp only
    cases ee ρ2 with
    | ok x ρ3 =>
      simp only [Ev.bind, wE]
      cases lcLoop (lcBody js tp none ee) ds (wipeE ρ3 js) <;> rfl
    | exc _ _ => rfl
    | stuck => rfl
theorem ll_cons1 {js : List Nat} {tp : Bool} {cc : FEnv → Ev Bool} {ee : FEnv → Ev DO} {d : D} {ds : List D} {P : List D → FEnv → Prop} : wLL (lcLoop (lcBody js tp (some cc) ee) (d :: ds) ρ) P = wTg js tp d ρ fun ρ2 => wT (cc ρ2) (fun b ρ3 => wIf b (wE (ee ρ3) (fun x _ ρ3 => wWp ρ3 js fun ρ4 => wLL (lcLoop (lcBody js tp (some cc) ee) ds ρ4) fun r ρ5 => P (x :: r) ρ5) fun _ _ => False) (wWp ρ3 js fun ρ4 => wLL (lcLoop (lcBody js tp (some cc) ee) ds ρ4) P)) fun _ _ => False := by
  rw [lcLoop]
  unfold wTg wWp
  have e : lcBody js tp (some cc) ee d ρ = match bindTg js tp d ρ with
    | some ρ2 => (cc ρ2).bind fun b ρ3 => if b then (ee ρ3).bind fun x ρ4 => .ok (some x.1) (wipeE ρ4 js) else .ok none (wipeE ρ3 js)
    | none => .stuck := rfl
  rw [e]
  cases bindTg js tp d ρ with
  | none => rfl
  | some ρ2 =>
    simp only
    cases cc ρ2 with
    | ok b ρ3 =>
      cases b with
      | true =>
        simp only [Ev.bind, wT, wIf_true, if_true]
        cases ee ρ3 with
        | ok x ρ4 =>
          simp only [Ev.bind, wE]
          cases lcLoop (lcBody js tp (some cc) ee) ds (wipeE ρ4 js) <;> rfl
        | exc _ _ => rfl
        | stuck => rfl
      | false =>
        simp only [Ev.bind, wT, wIf_false, Bool.false_eq_true, if_false]
    | exc _ _ => rfl
    | stuck => rfl
/-! tests -/
variable {QB : Bool → FEnv → Prop}
theorem rt_eE : wT (evT pg (.e a) ρ) QB X = wE (evE pg a ρ) (fun x _ ρ1 => wO (truD x) fun b => QB b ρ1) X := by
  rw [evT]
  cases evE pg a ρ with
  | ok x ρ1 =>
    simp only [Ev.bind, wE]
    cases truD x.1 <;> rfl
  | exc x ρ1 => rfl
  | stuck => rfl
theorem rt_andE : wT (evT pg (.and ta tb) ρ) QB X = wT (evT pg ta ρ) (fun c ρ1 => wIf c (wT (evT pg tb ρ1) QB X) (QB false ρ1)) X := by
  rw [evT]
  cases evT pg ta ρ with
  | ok x ρ1 => 
    simp only [Ev.bind, wT]
    cases x <;> simp [wIf_true, wIf_false]
  | exc x ρ1 => rfl
  | stuck => rfl
theorem rt_orE : wT (evT pg (.or ta tb) ρ) QB X = wT (evT pg ta ρ) (fun c ρ1 => wIf c (QB true ρ1) (wT (evT pg tb ρ1) QB X)) X := by
  rw [evT]
  cases evT pg ta ρ with
  | ok x ρ1 => 
    simp only [Ev.bind, wT]
    cases x <;> simp [wIf_true, wIf_false]
  | exc x ρ1 => rfl
  | stuck => rfl
theorem rt_notE : wT (evT pg (.not ta) ρ) QB X = wT (evT pg ta ρ) (fun c ρ1 => QB (!c) ρ1) X := by
  rw [evT]
  cases evT pg ta ρ <;> rfl
theorem rt_borE : wT (evT pg (.bor ta) ρ) QB X = wSh ρ fun ρs => wT (evT pg ta ρs) (fun c _ => QB c ρ) (fun x _ => X x ρ) := by
  rw [evT]
  show _ = wT (evT pg ta (sharedEnv ρ)) _ _
  cases evT pg ta (sharedEnv ρ) <;> rfl
/-! iterators -/
variable {QI : List D → FEnv → Prop}
theorem ri_eE : wI (evI pg (.e a) ρ) QI X = wE (evE pg a ρ) (fun x _ ρ1 => wO (seqD x) fun b => QI b ρ1) X := by
  rw [evI]
  cases evE pg a ρ with
  | ok x ρ1 =>
    simp only [Ev.bind, wE]
    cases seqD x.1 <;> rfl
  | exc x ρ1 => rfl
  | stuck => rfl
theorem ri_rng1E : wI (evI pg (.rng1 a) ρ) QI X = wE (evE pg a ρ) (fun x _ ρ1 => wInt x fun n => wB (inRange n) (QI (rangeD 0 n) ρ1)) X := by
  rw [evI]
  cases evE pg a ρ with
  | ok x ρ1 =>
    obtain ⟨x, o⟩ := x
    cases x with
    | int n =>
      simp only [Ev.bind, wE, wInt]
      cases h : inRange n <;> simp [wB, wI]
    | _ => rfl
  | exc x ρ1 => rfl
  | stuck => rfl
theorem ri_rng2E : wI (evI pg (.rng2 a b) ρ) QI X = wE (evE pg a ρ) (fun x _ ρ1 => wE (evE pg b ρ1) (fun y _ ρ2 => wInt x fun i => wInt y fun j => wB (inRange i) (wB (inRange j) (QI (rangeD i j) ρ2))) X) X := by
  rw [evI]
  cases evE pg a ρ with
  | ok x ρ1 =>
    obtain ⟨x, o⟩ := x
    simp only [Ev.bind, wE_ok]
    cases evE pg b ρ1 with
    | ok y ρ2 =>
      obtain ⟨y, o2⟩ := y
      cases x with
      | int i =>
        cases y with
        | int j =>
          simp only [wE_ok, wInt]
          cases h : inRange i <;> cases h2 : inRange j <;> simp [wB, wI]
        | _ => rfl
      | _ => rfl
    | exc x ρ1 => rfl
    | stuck => rfl
  | exc x ρ1 => rfl
  | stuck => rfl
def wZip (x y : D) (K : List D → Prop) (_ : Dm K := ()) : Prop := match x, y with
  | .lst i, .lst j => K ((i.zip j).map fun p => .tup [p.1, p.2])
  | .tup i, .tup j => K ((i.zip j).map fun p => .tup [p.1, p.2])
  | _, _ => False
theorem wZ_l {i j : List D} {K : List D → Prop} : wZip (.lst i) (.lst j) K = K ((i.zip j).map fun p => .tup [p.1, p.2]) := (rfl)
theorem wZ_t {i j : List D} {K : List D → Prop} : wZip (.tup i) (.tup j) K = K ((i.zip j).map fun p => .tup [p.1, p.2]) := (rfl)
theorem ri_zipE : wI (evI pg (.zip a b) ρ) QI X = wE (evE pg a ρ) (fun x _ ρ1 => wE (evE pg b ρ1) (fun y _ ρ2 => wZip x y fun l => QI l ρ2) X) X := by
  rw [evI]
  cases evE pg a ρ with
  | ok x ρ1 =>
    obtain ⟨x, o⟩ := x
    simp only [Ev.bind, wE_ok]
    cases evE pg b ρ1 with
    | ok y ρ2 =>
      obtain ⟨y, o2⟩ := y
      cases x <;> cases y <;> rfl
    | exc x ρ1 => rfl
    | stuck => rfl
  | exc x ρ1 => rfl
  | stuck => rfl
theorem ri_enumE {st : Int} : wI (evI pg (.enum a st) ρ) QI X = wE (evE pg a ρ) (fun x _ ρ1 => wLst x fun ds => QI ((List.range ds.length).zip ds |>.map fun p => .tup [.int (st + (p.1 : Int)), p.2]) ρ1) X := by
  rw [evI]
  cases evE pg a ρ with
  | ok x ρ1 =>
    obtain ⟨x, o⟩ := x
    cases x <;> rfl
  | exc x ρ1 => rfl
  | stuck => rfl
theorem ri_enumTE : wI (evI pg (.enumT a) ρ) QI X = wE (evE pg a ρ) (fun x _ ρ1 => wTup x fun ds => QI ((List.range ds.length).zip ds |>.map fun p => .tup [.int (p.1 : Int), p.2]) ρ1) X := by
  rw [evI]
  cases evE pg a ρ with
  | ok x ρ1 =>
    obtain ⟨x, o⟩ := x
    cases x <;> rfl
  | exc x ρ1 => rfl
  | stuck => rfl
end
end FB
namespace FB
open PySem L2
/-! ### calls -/
section
variable {t : Tab} {n f i j : Nat} {pg : Pg} {e a b : E} {es : Es} {ρ : FEnv} {Q : D → O → FEnv → Prop} {X : Exn → FEnv → Prop} {m : Str}
theorem shN_nil : ∀ (k : Nat) (xs : List DO), shN [] k (xs.map shD) = shN [] k xs
  | _, [] => rfl
  | k, x :: xs => by simp [shN, shN_nil (k + 1) xs, shD]
theorem shN_one : ∀ (k : Nat) (xs : List DO), shN [0] (k + 1) (xs.map shD) = shN [0] (k + 1) xs
  | _, [] => rfl
  | k, x :: xs => by simp [shN, shN_one (k + 1) xs, shD]
theorem fnAt_sh {xs : List DO} (h : (t.defs f).io = []) : ∀ n, t.fnAt n f (xs.map shD) = t.fnAt n f xs
  | 0 => rfl
  | 1 => rfl
  | n + 2 => by
    show fnSem _ (t.defs f) _ = fnSem _ (t.defs f) _
    unfold fnSem
    rw [h, List.length_map, shN_nil]
theorem fnAt_sh1 {x : DO} {xs : List DO} (h : (t.defs f).io = [0]) : ∀ n, t.fnAt n f (x :: xs.map shD) = t.fnAt n f (x :: xs)
  | 0 => rfl
  | 1 => rfl
  | n + 2 => by
    show fnSem _ (t.defs f) _ = fnSem _ (t.defs f) _
    unfold fnSem
    have e : shN [0] 0 (x :: xs.map shD) = shN [0] 0 (x :: xs) := by
      simp only [shN]
      rw [shN_one 0 xs]
    rw [h, e]
    simp only [List.length_cons, List.length_map]
theorem wA_sh {r : Ev (List DO)} {Q1 Q2 : List DO → FEnv → Prop} (h : ∀ xs ρ, Q1 xs ρ = Q2 (xs.map shD) ρ) : wA r Q1 X = wA0 r Q2 X := by
  cases r <;> simp [wA, wA0, h]
theorem r_call0 (h : (t.defs f).io = []) : wE (evE (t.at n) (.call f es [] []) ρ) Q X = wA0 (evEs (t.at n) es ρ) (fun xs ρ1 => wR (t.fnAt (n + 1) f xs) [] ρ1 Q X) X := by
  rw [evE, wE_bindEs]
  refine wA_sh fun xs ρ => ?_
  rw [fnAt_sh h]
  simp only [dflt, List.map_nil, List.append_nil]
  rfl
theorem r_callB {x : Option Nat} {bk : List (Option Nat)} : wE (evE (t.at n) (.call f es [] (x :: bk)) ρ) Q X = wA (evEs (t.at n) es ρ) (fun xs ρ1 => wR (t.fnAt (n + 1) f xs) (x :: bk) ρ1 Q X) X := by
  rw [evE, wE_bindEs]
  refine wA_eq fun xs ρ => ?_
  simp only [dflt, List.map_nil, List.append_nil]
  rfl
theorem r_mk0 (h : (t.defs (t.ini f)).io = [0]) : wE (evE (t.at n) (.mk f es []) ρ) Q X = wA0 (evEs (t.at n) es ρ) (fun xs ρ1 => wR (makSem f (t.fnAt n (t.ini f)) xs) [] ρ1 Q X) X := by
  rw [evE, wE_bindEs]
  refine wA_sh fun xs ρ => ?_
  simp only [dflt, List.map_nil, List.append_nil, makSem]
  rw [fnAt_sh1 h]
  rfl
theorem r_mkD {c : Const} {df : List Const} (h : (t.defs (t.ini f)).io = [0]) : wE (evE (t.at n) (.mk f es (c :: df)) ρ) Q X = wA0 (evEs (t.at n) es ρ) (fun xs ρ1 => wR (makSem f (t.fnAt n (t.ini f)) (xs ++ dflt (c :: df))) [] ρ1 Q X) X := by
  rw [evE, wE_bindEs]
  refine wA_sh fun xs ρ => ?_
  have e : t.fnAt n (t.ini f) ((.obj f [] [], .root) :: (xs ++ dflt (c :: df))) = t.fnAt n (t.ini f) ((.obj f [] [], .root) :: (xs.map shD ++ dflt (c :: df))) := by
    have e1 := fnAt_sh1 (x := (.obj f [] [], .root)) (xs := xs ++ dflt (c :: df)) h n
    have e2 := fnAt_sh1 (x := (.obj f [] [], .root)) (xs := xs.map shD ++ dflt (c :: df)) h n
    have e3 : (xs.map shD ++ dflt (c :: df)).map shD = (xs ++ dflt (c :: df)).map shD := by
      simp [shD, Function.comp_def]
    rw [e3] at e2
    exact e1.symm.trans e2
  have e' : makSem f (t.fnAt n (t.ini f)) (xs ++ dflt (c :: df)) = makSem f (t.fnAt n (t.ini f)) (xs.map shD ++ dflt (c :: df)) := by
    unfold makSem
    rw [e]
  show wE (ofRt [] ρ (makSem f (t.fnAt n (t.ini f)) (xs ++ dflt (c :: df)))) Q X = _
  rw [e']
  rfl
theorem r_callD {c : Const} {df : List Const} (h : (t.defs f).io = []) : wE (evE (t.at n) (.call f es (c :: df) []) ρ) Q X = wA0 (evEs (t.at n) es ρ) (fun xs ρ1 => wR (t.fnAt (n + 1) f (xs ++ dflt (c :: df))) [] ρ1 Q X) X := by
  rw [evE, wE_bindEs]
  refine wA_sh fun xs ρ => ?_
  have e : t.fnAt (n + 1) f (xs ++ dflt (c :: df)) = t.fnAt (n + 1) f (xs.map shD ++ dflt (c :: df)) := by
    have e1 := fnAt_sh (xs := xs ++ dflt (c :: df)) h (n + 1)
    have e2 := fnAt_sh (xs := xs.map shD ++ dflt (c :: df)) h (n + 1)
    have e3 : (xs.map shD ++ dflt (c :: df)).map shD = (xs ++ dflt (c :: df)).map shD := by
      simp [shD, Function.comp_def]
    rw [e3] at e2
    exact e1.symm.trans e2
  rw [← e]
  rfl
theorem dflt_0 {i : Int} : dflt [.int i] = [(.int i, .sh)] := (rfl)
theorem dflt_N : dflt [.none] = [(.non, .sh)] := (rfl)
theorem mak_ok {g : List DO → Rt} {xs : List DO} {d : D} {o : O} (h : g ((.obj f [] [], .root) :: xs) = .ok .non .sh [(d, o)]) : makSem f g xs = .ok d o [] := by
  unfold makSem
  rw [h]
theorem mak_exc {g : List DO → Rt} {xs : List DO} {x : Exn} {y : DO} (h : g ((.obj f [] [], .root) :: xs) = .exc x [y]) : makSem f g xs = .exc x [] := by
  unfold makSem
  rw [h]
/-- the method that a datum's class has -/
def mthO (pg : Pg) (d : D) (m : Str) : Option Nat := match d with
  | .obj c fs _ => if fs.contains m then none else pg.mth c m
  | _ => none
theorem r_mth0 : wE (evE (t.at n) (.mth a m es [] []) ρ) Q X = wE (evE (t.at n) a ρ) (fun d _ ρ1 => wO (mthO (t.at n) d m) fun f => wGd ((t.defs f).io = []) (wA0 (evEs (t.at n) es ρ1) (fun xs ρ2 => wR (t.fnAt (n + 1) f ((d, .sh) :: xs)) [] ρ2 Q X) X)) X := by
  rw [evE, wE_bindE]
  refine wE_eq fun d o ρ1 => ?_
  cases d with
  | obj c fs ds =>
    simp only [mthO]
    cases hc : fs.contains m with
    | true => rfl
    | false =>
      simp only [Bool.false_eq_true, if_false]
      cases hm : (t.at n).mth c m with
      | none => rfl
      | some f =>
        simp only [opt, wO]
        have e : (t.at n).iof f = (t.defs f).io := rfl
        rw [e]
        cases hio : (t.defs f).io with
        | nil =>
          simp only [bkOk, if_true, wGd, true_and]
          rw [wE_bindEs]
          refine wA_sh fun xs ρ => ?_
          simp only [dflt, List.map_nil, List.append_nil]
          have e2 := fnAt_sh (t := t) (f := f) (xs := (.obj c fs ds, o) :: xs) hio (n + 1)
          rw [List.map_cons] at e2
          have e3 : (t.at n).fn f ((.obj c fs ds, o) :: xs) = t.fnAt (n + 1) f ((.obj c fs ds, o) :: xs) := rfl
          rw [e3, ← e2]
          rfl
        | cons j io =>
          simp only [bkOk, Bool.false_eq_true, if_false, wGd, List.cons_ne_nil, reduceCtorEq, false_and]
          rfl
  | _ => rfl
/-- a method of a held object: what is left of the call -/
def wMI (t : Tab) (n i f : Nat) (es : Es) (ρ : FEnv) (Q : D → O → FEnv → Prop) (X : Exn → FEnv → Prop) (_ : Dm (Q, X) := ()) : Prop := wE (if bkOk (some i :: holdsOf es) ((t.defs f).io) [some i] then
        (evEs (t.at n) es ρ).bind fun xs ρ1 => (match ρ1[i]? with
          | some (some x) => ofRt [some i] (ρ1.set i none) ((t.at n).fn f (x :: (xs ++ dflt [])))
          | _ => .stuck) else .stuck) Q X
theorem r_mthI0 : wE (evE (t.at n) (.mthI i m es [] []) ρ) Q X = wG ρ i fun d _ => wO (mthO (t.at n) d m) fun f => wMI t n i f es ρ Q X := by
  rw [evE]
  unfold wG
  cases ρ[i]? with
  | none => rfl
  | some y => cases y with
    | none => rfl
    | some z =>
      obtain ⟨d, o⟩ := z
      cases d with
      | obj c fs ds =>
        simp only [mthO]
        cases hc : fs.contains m with
        | true => rfl
        | false =>
          simp only [Bool.false_eq_true, if_false]
          cases hm : (t.at n).mth c m with
          | none => rfl
          | some f => rfl
      | _ => rfl
theorem r_mi0 (h : (t.defs f).io = [0]) : wMI t n i f es ρ Q X = wA0 (evEs (t.at n) es ρ) (fun xs ρ1 => wG ρ1 i fun d o => wS ρ1 i none fun ρ2 => wR (t.fnAt (n + 1) f ((d, o) :: xs)) [some i] ρ2 Q X) X := by
  unfold wMI
  rw [h]
  have e : bkOk (some i :: holdsOf es) [0] [some i] = true := by simp [bkOk]
  rw [if_pos e, wE_bindEs]
  refine wA_sh fun xs ρ => ?_
  simp only [dflt, List.map_nil, List.append_nil]
  unfold wG wS
  cases ρ[i]? with
  | none => rfl
  | some y => cases y with
    | none => rfl
    | some z =>
      obtain ⟨d, o⟩ := z
      show wE (ofRt _ _ (t.fnAt (n + 1) f ((d, o) :: xs))) Q X = _
      rw [← fnAt_sh1 h]
      rfl
/-! ### what changes its object -/
theorem r_mut {p : List PStep} {mu : Mu} : wE (evE pg (.mut i p mu es) ρ) Q X = wG ρ i fun d0 o0 => wAt (getAt pg.att p (d0, o0)) fun d => wB (tyM mu d) (wS ρ i none fun ρ0 => wEs (evEs pg es ρ0) (fun xs _ ρ1 => wO2 (muD mu d xs) fun r1 r2 => wO2 (setAt p (d0, o0) (r2, .root)) fun d' o' => wNo ρ1 i (wS ρ1 i (some (d', o')) fun ρ2 => Q r1 .sh ρ2)) X) := by
  rw [evE]
  unfold mutF wG
  cases ρ[i]? with
  | none => rfl
  | some y => cases y with
    | none => rfl
    | some z =>
      obtain ⟨d0, o0⟩ := z
      simp only
      cases getAt pg.att p (d0, o0) with
      | none => rfl
      | some z =>
        obtain ⟨d, o⟩ := z
        cases o with
        | root =>
          simp only [wAt]
          cases hm : tyM mu d with
          | true =>
            simp only [if_true, wB_true, wS]
            rw [wE_bindEs, ← wA_of]
            refine wA_eq fun xs ρ1 => ?_
            cases muD mu d (xs.map (·.1)) with
            | none => rfl
            | some r =>
              obtain ⟨r1, r2⟩ := r
              simp only [opt, wO2_some]
              cases setAt p (d0, o0) (r2, .root) with
              | none => rfl
              | some x' =>
                obtain ⟨d', o'⟩ := x'
                simp only [wO2_some, wNo]
                cases ρ1[i]? with
                | none => rfl
                | some y => cases y <;> rfl
          | false => simp [wB, wE]
        | sh => rfl
        | node os => rfl
theorem r_mutR {p : List PStep} {mu : Mu} {g : Str} : wE (evE pg (.mutR i p mu g) ρ) Q X = wE (rdF pg.att i g ρ) (fun y _ ρ => wG ρ i fun d0 o0 => wAt (getAt pg.att p (d0, o0)) fun d => wB (tyM mu d) (wS ρ i none fun ρ1 => wO2 (muD mu d [y]) fun r1 r2 => wO2 (setAt p (d0, o0) (r2, .root)) fun d' o' => wNo ρ1 i (wS ρ1 i (some (d', o')) fun ρ2 => Q r1 .sh ρ2))) X := by
  rw [evE]
  unfold mutRF
  rw [wE_bindE]
  refine wE_eq fun y oy ρ => ?_
  unfold mutF wG
  cases ρ[i]? with
  | none => rfl
  | some y => cases y with
    | none => rfl
    | some z =>
      obtain ⟨d0, o0⟩ := z
      simp only
      cases getAt pg.att p (d0, o0) with
      | none => rfl
      | some z =>
        obtain ⟨d, o⟩ := z
        cases o with
        | root =>
          simp only [wAt]
          cases hm : tyM mu d with
          | true =>
            simp only [if_true, wB_true, wS, Ev.bind, List.map_cons, List.map_nil]
            cases muD mu d [_] with
            | none => rfl
            | some r =>
              obtain ⟨r1, r2⟩ := r
              simp only [opt, wO2_some]
              cases setAt p (d0, o0) (r2, .root) with
              | none => rfl
              | some x' =>
                obtain ⟨d', o'⟩ := x'
                simp only [wO2_some, wNo]
                cases (ρ.set i none)[i]? with
                | none => rfl
                | some y => cases y <;> rfl
          | false => simp [wB, wE]
        | sh => rfl
        | node os => rfl
/-- a held object's field read: the field, how the object is held then -/
def rdO (att : Nat → Str → Bool) (d : D) (o : O) (f : Str) : Option (D × O) := match d, o with
  | .obj c fs ds, .node os => if att c f then (match lookF fs ds f, fs.findIdx? (· == f) with
    | some d, some n => some (d, .node (os.set n .sh))
    | _, _ => none) else none
  | .obj c fs ds, .root => if att c f then (match lookF fs ds f, fs.findIdx? (· == f) with
    | some d, some _ => some (d, .root)
    | _, _ => none) else none
  | _, _ => none
theorem r_rdF {att : Nat → Str → Bool} {g : Str} : wE (rdF att i g ρ) Q X = wG ρ i fun d o => wO2 (rdO att d o g) fun d' o' => wS ρ i (some (d, o')) fun ρ' => Q d' .sh ρ' := by
  unfold rdF wG wS
  cases h : ρ[i]? with
  | none => rfl
  | some y => cases y with
    | none => rfl
    | some z =>
      obtain ⟨d, o⟩ := z
      cases d with
      | obj c fs ds =>
        cases o with
        | sh => rfl
        | root =>
          simp only [rdO]
          cases att c g with
          | false => rfl
          | true =>
            simp only [if_true]
            cases lookF fs ds g with
            | none => rfl
            | some d1 =>
              cases fs.findIdx? (· == g) with
              | none => rfl
              | some k =>
                have : ρ.set i (some (.obj c fs ds, .root)) = ρ := by
                  apply List.ext_getElem?
                  intro j
                  rw [List.getElem?_set]
                  split
                  · rename_i hj
                    subst hj
                    split
                    · exact h.symm
                    · rename_i h2
                      rw [List.getElem?_eq_none (by omega)]
                  · rfl
                simp only [wO2_some, this]
                rfl
        | node os =>
          simp only [rdO]
          cases att c g with
          | false => rfl
          | true =>
            simp only [if_true]
            cases lookF fs ds g with
            | none => rfl
            | some d1 => cases fs.findIdx? (· == g) <;> rfl
      | _ => cases o <;> rfl
end
/-! ### statements -/
section
variable {t : Tab} {n f i j c : Nat} {pg : Pg} {e ix : E} {es : Es} {s : S} {ss sa sb : Ss} {ts : T} {ρ : FEnv} {N : FEnv → Prop} {R : D → O → FEnv → Prop} {B C : FEnv → Prop} {X : Exn → FEnv → Prop} {m : Str} {p : List PStep}
theorem wF_flE {r : Ev DO} {g : DO → FEnv → Fl} : wF (r.fl g) N R B C X = wE r (fun d o ρ => wF (g (d, o) ρ) N R B C X) X := by cases r <;> rfl
theorem wF_flT {r : Ev Bool} {g : Bool → FEnv → Fl} : wF (r.fl g) N R B C X = wT r (fun d ρ => wF (g d ρ) N R B C X) X := by cases r <;> rfl
theorem wF_flI {r : Ev (List D)} {g : List D → FEnv → Fl} : wF (r.fl g) N R B C X = wI r (fun d ρ => wF (g d ρ) N R B C X) X := by cases r <;> rfl
theorem s_nil : wF (evSs pg .nil ρ) N R B C X = N ρ := (rfl)
theorem s_cons : wF (evSs pg (.cons s ss) ρ) N R B C X = wF (evS pg s ρ) (fun ρ' => wF (evSs pg ss ρ') N R B C X) R B C X := by
  rw [evSs]
  cases evS pg s ρ <;> rfl
theorem s_asg : wF (evS pg (.asg i e) ρ) N R B C X = wE (evE pg e ρ) (fun d o ρ1 => wS ρ1 i (some (d, o)) N) X := by rw [evS, wF_flE]; rfl
theorem s_unp {js : List Nat} : wF (evS pg (.unp js e) ρ) N R B C X = wE (evE pg e ρ) (fun d _ ρ1 => wTg js true d ρ1 N) X := by
  rw [evS, wF_flE]
  refine wE_eq fun d o ρ1 => ?_
  unfold wTg
  cases bindTg js true d ρ1 <;> rfl
theorem s_ex : wF (evS pg (.ex e) ρ) N R B C X = wE (evE pg e ρ) (fun _ _ ρ1 => N ρ1) X := by rw [evS, wF_flE]; rfl
theorem s_ite : wF (evS pg (.ite ts sa sb) ρ) N R B C X = wT (evT pg ts ρ) (fun c ρ1 => wIf c (wF (evSs pg sa ρ1) N R B C X) (wF (evSs pg sb ρ1) N R B C X)) X := by
  rw [evS, wF_flT]
  refine wT_eq fun c ρ1 => ?_
  cases c <;> simp [wIf_true, wIf_false]
theorem s_for {js : List Nat} {tp : Bool} {it : It} : wF (evS pg (.for1 js tp it sa) ρ) N R B C X = wI (evI pg it ρ) (fun ds ρ1 => wF (forLoop (forBody js tp (evSs pg sa)) ds ρ1) N R B C X) X := by rw [evS, wF_flI]
theorem s_forN {j : Nat} {js : List Nat} {it : It} : wF (evS pg (.forN j js it sa) ρ) N R B C X = wI (evI pg it ρ) (fun ds ρ1 => wF (forLoop (forBodyN j js (evSs pg sa)) ds ρ1) N R B C X) X := by rw [evS, wF_flI]
theorem s_whl : wF (evS pg (.whl ts sa) ρ) N R B C X = wF (whLoop (evT pg ts) (evSs pg sa) pg.fuel ρ) N R B C X := (rfl)
theorem wF_noX {r : Fl} (h : wF r N R B C fun _ _ => False) : wF (noX r) N R B C X := by
  cases r with
  | exc x ρ => exact h.elim
  | stuck => exact h.elim
  | _ => exact h
theorem noX_nx : noX (.nx ρ) = .nx ρ := (rfl)
def wD (d : D) (im : Bool) (K : List D → Prop) (_ : Dm (K []) := ()) : Prop := match d with
  | .dic ks ds => K (dItems im ks ds)
  | _ => False
theorem wD_dic {ks : List Key} {ds : List D} {im : Bool} {K : List D → Prop} : wD (.dic ks ds) im K = K (dItems im ks ds) := (rfl)
theorem s_forD {js : List Nat} {tp im : Bool} : wF (evS pg (.forD js tp im e sa) ρ) N R B C X = wE (evE pg e ρ) (fun d o ρ1 => wD d im fun ds => wF (noX (forLoop (forBody js tp (evSs pg sa)) ds ρ1)) N R B C X) X := by
  rw [evS, wF_flE]
  refine wE_eq fun d o ρ1 => ?_
  cases d <;> rfl
theorem s_ret : wF (evS pg (.ret e) ρ) N R B C X = wE (evE pg e ρ) (fun d o ρ1 => R d o ρ1) X := by rw [evS, wF_flE]; rfl
theorem s_retN : wF (evS pg .retN ρ) N R B C X = R .non .sh ρ := (rfl)
theorem s_rais : wF (evS pg (.rais c e false) ρ) N R B C X = X ⟨c, [], []⟩ ρ := (rfl)
theorem s_brk : wF (evS pg .brk ρ) N R B C X = B ρ := (rfl)
theorem s_cont : wF (evS pg .cont ρ) N R B C X = C ρ := (rfl)
theorem s_pass : wF (evS pg .pass ρ) N R B C X = N ρ := (rfl)
theorem s_try {hs : Hs} : wF (evS pg (.tryc sa hs) ρ) N R B C X = wF (evSs pg sa ρ) N R B C (fun x ρ1 => wF (evHs pg hs x ρ1) N R B C X) := by
  rw [evS]
  cases evSs pg sa ρ <;> rfl
def pgX (pg : Pg) (x : Exn) : Pg := { pg with cur := some x }
def wLt (j : Nat) (ρ : FEnv) (P : Prop) (_ : Dm P := ()) : Prop := j < ρ.length ∧ P
theorem wLt_0 {x : Option DO} {P : Prop} : wLt 0 (x :: ρ) P = P := by simp [wLt]
theorem wLt_s {x : Option DO} {P : Prop} : wLt (j + 1) (x :: ρ) P = wLt j ρ P := by simp [wLt]
theorem h_nil {x : Exn} : wF (evHs pg .nil x ρ) N R B C X = X x ρ := (rfl)
theorem h_0 {x : Exn} {hs : Hs} : wF (evHs pg (.cons c none sa hs) x ρ) N R B C X = wO (pg.sub x.c c) fun t => wIf t (wF (evSs (pgX pg x) sa ρ) N R B C fun _ _ => False) (wF (evHs pg hs x ρ) N R B C X) := by
  rw [evHs]
  cases pg.sub x.c c with
  | none => rfl
  | some t => cases t with
    | true =>
      simp only [wO, wIf_true]
      show wF (endX none (evSs (pgX pg x) sa ρ)) N R B C X = _
      cases evSs (pgX pg x) sa ρ <;> rfl
    | false => simp only [wO, wIf_false]
theorem h_1 {x : Exn} {hs : Hs} : wF (evHs pg (.cons c (some j) sa hs) x ρ) N R B C X = wO (pg.sub x.c c) fun t => wIf t (wLt j ρ (wS ρ j none fun ρ1 => wF (evSs (pgX pg x) sa ρ1) (fun ρ => wS ρ j none N) (fun d o ρ => wS ρ j none fun ρ' => R d o ρ') (fun ρ => wS ρ j none B) (fun ρ => wS ρ j none C) fun _ _ => False)) (wF (evHs pg hs x ρ) N R B C X) := by
  rw [evHs]
  cases pg.sub x.c c with
  | none => rfl
  | some t => cases t with
    | true =>
      simp only [wO, wIf_true, wLt, wS]
      by_cases h : j < ρ.length
      · rw [if_pos h]
        show wF (endX (some j) (evSs (pgX pg x) sa (ρ.set j none))) N R B C X = _
        simp only [h, true_and]
        cases evSs (pgX pg x) sa (ρ.set j none) <;> rfl
      · rw [if_neg h]
        simp [h, wF]
    | false => simp only [wO, wIf_false]
theorem s_asgX {x : Exn} {b : XB} : wF (evS (pgX pg x) (.asgX i b) ρ) N R B C X = wGd (x.fs = []) (wO (evX pg.sub x.c b) fun b => wS ρ i (some (.bl b, .sh)) N) := by
  rw [evS]
  simp only [pgX]
  by_cases h : x.fs = []
  · rw [if_pos h]
    simp only [wGd, h, true_and]
    cases evX pg.sub x.c b <;> rfl
  · rw [if_neg h]
    simp [wGd, h, wF]
theorem s_seti : wF (evS pg (.seti i p ix e) ρ) N R B C X = wE (evE pg e ρ) (fun y _ ρ1 => wG ρ1 i fun d0 o0 => wAt (getAt pg.att p (d0, o0)) fun d => wSh ρ1 fun ρs => wE (evE pg ix ρs) (fun k _ _ => wO (setD d k y) fun d' => wO2 (setAt p (d0, o0) (d', .root)) fun d2 o2 => wS ρ1 i (some (d2, o2)) N) fun _ _ => False) X := by
  rw [evS]
  unfold setiF
  rw [wF_flE]
  refine wE_eq fun y oy ρ1 => ?_
  unfold wG
  cases ρ1[i]? with
  | none => rfl
  | some z => cases z with
    | none => rfl
    | some z =>
      obtain ⟨d0, o0⟩ := z
      simp only
      cases getAt pg.att p (d0, o0) with
      | none => rfl
      | some z =>
        obtain ⟨d, o⟩ := z
        cases o with
        | root =>
          simp only [wAt, wSh]
          cases evE pg ix (sharedEnv ρ1) with
          | ok k ρ2 =>
            simp only [wE]
            cases setD d k.1 y with
            | none => rfl
            | some d' =>
              simp only [wO]
              cases setAt p (d0, o0) (d', .root) <;> rfl
          | exc _ _ => rfl
          | stuck => rfl
        | _ => rfl
/-- a dict with an item put -/
def putDic (d : D) (k : D) (y : D) : Option D := match d, keyD k with
  | .dic ks ds, some k => if ks.Nodup ∧ ks.length < 16000000 then some (.dic (dicPutK ks k) (putG ks ds k y)) else none
  | _, _ => none
theorem putDic_ok {ks : List Key} {ds : List D} {d : D} {k : Key} {y : D} (h : keyD d = some k) (h1 : ks.Nodup) (h2 : ks.length < 16000000) : putDic (.dic ks ds) d y = some (.dic (dicPutK ks k) (putG ks ds k y)) := by
  simp only [putDic, h]
  rw [if_pos ⟨h1, h2⟩]
theorem s_setd : wF (evS pg (.setd i p ix e) ρ) N R B C X = wE (evE pg e ρ) (fun y _ ρ1 => wG ρ1 i fun d0 o0 => wAt (getAt pg.att p (d0, o0)) fun d => wB (decide (kdOf d = .dic)) (wSh ρ1 fun ρs => wE (evE pg ix ρs) (fun k _ _ => wO (putDic d k y) fun d' => wO2 (setAt p (d0, o0) (d', .root)) fun d2 o2 => wS ρ1 i (some (d2, o2)) N) fun _ _ => False)) X := by
  rw [evS]
  unfold setdF
  rw [wF_flE]
  refine wE_eq fun y oy ρ1 => ?_
  unfold wG
  cases ρ1[i]? with
  | none => rfl
  | some z => cases z with
    | none => rfl
    | some z =>
      obtain ⟨d0, o0⟩ := z
      simp only
      cases getAt pg.att p (d0, o0) with
      | none => rfl
      | some z =>
        obtain ⟨d, o⟩ := z
        cases d with
        | dic ks ds =>
          cases o with
          | root =>
            simp only [wAt, wSh, kdOf, decide_true, wB_true]
            cases evE pg ix (sharedEnv ρ1) with
            | ok k ρ2 =>
              simp only [wE, putDic]
              cases keyD k.1 with
              | none => rfl
              | some k =>
                simp only
                by_cases h : ks.Nodup ∧ ks.length < 16000000
                · rw [if_pos h, if_pos h]
                  simp only [wO]
                  cases setAt p (d0, o0) (.dic (dicPutK ks k) (putG ks ds k y), .root) <;> rfl
                · rw [if_neg h, if_neg h]
                  rfl
            | exc _ _ => rfl
            | stuck => rfl
          | _ => rfl
        | _ => cases o <;> simp [wAt, wB, kdOf, wF]
/-- a held object with a field set -/
def setfO (att : Nat → Str → Bool) (d : D) (o : O) (f : Str) (y : D) (oy : O) : Option (D × O) := match d, o with
  | .obj c fs ds, .root => if att c f && decide (fs.length < 900) then some (.obj c (putFs fs f) (putDs fs ds f y), (if oy.isSh then .root else .node (putOs fs (ds.map fun _ => .sh) f oy))) else none
  | .obj c fs ds, .node os => if att c f && decide (fs.length < 900) then some (.obj c (putFs fs f) (putDs fs ds f y), .node (putOs fs os f oy)) else none
  | _, _ => none
theorem s_setf : wF (evS pg (.setf i m e) ρ) N R B C X = wE (evE pg e ρ) (fun y oy ρ1 => wG ρ1 i fun d0 o0 => wO2 (setfO pg.att d0 o0 m y oy) fun d2 o2 => wS ρ1 i (some (d2, o2)) N) X := by
  rw [evS]
  unfold setfF
  rw [wF_flE]
  refine wE_eq fun y oy ρ1 => ?_
  unfold wG
  cases ρ1[i]? with
  | none => rfl
  | some z => cases z with
    | none => rfl
    | some z =>
      obtain ⟨d0, o0⟩ := z
      cases d0 with
      | obj c fs ds =>
        cases o0 with
        | sh => rfl
        | root =>
          simp only [setfO]
          cases pg.att c m && decide (fs.length < 900) <;> rfl
        | node os =>
          simp only [setfO]
          cases pg.att c m && decide (fs.length < 900) <;> rfl
      | _ => cases o0 <;> rfl
/-! ### a def -/
def wRep (n : Nat) (P : FEnv → Prop) (_ : Dm P := ()) : Prop := P (List.replicate n none)
def wIn (io : List Nat) (k : Nat) (args : List DO) (n : Nat) (P : FEnv → Prop) (_ : Dm P := ()) : Prop := P (shN io k args ++ List.replicate n none)
theorem wRep_0 {P : FEnv → Prop} : wRep 0 P = P [] := (rfl)
theorem wRep_s {P : FEnv → Prop} : wRep (n + 1) P = wRep n fun ρ => P (none :: ρ) := (rfl)
theorem wIn_nil {io : List Nat} {k : Nat} {P : FEnv → Prop} : wIn io k [] n P = wRep n P := (rfl)
theorem wIn_cons {k : Nat} {d : D} {o : O} {xs : List DO} {P : FEnv → Prop} : wIn [] k ((d, o) :: xs) n P = wIn [] (k + 1) xs n fun ρ => P (some (d, .sh) :: ρ) := (rfl)
theorem wIn_cons0 {d : D} {o : O} {xs : List DO} {P : FEnv → Prop} : wIn [0] 0 ((d, o) :: xs) n P = wIn [] 1 xs n fun ρ => P (some (d, o) :: ρ) := by
  unfold wIn
  have e : ∀ (k : Nat) (ys : List DO), shN [0] (k + 1) ys = shN [] (k + 1) ys := by
    intro k ys
    induction ys generalizing k with
    | nil => rfl
    | cons y ys ih => simp [shN, ih (k + 1)]
  show P (shN [0] 0 ((d, o) :: xs) ++ _) = _
  simp only [shN]
  rw [e 0 xs]
  rfl
theorem wFn {np ns : Nat} {io : List Nat} {body : Ss} {args : List DO} (P : Rt → Prop) (h1 : t.defs i = ⟨np, ns, io, body⟩) (hl : args.length = np)
    (h : wIn io 0 args (ns - np) fun ρ => wF (evSs (t.at n) body ρ) (fun ρ => wFin ρ io fun l => P (.ok .non .sh l)) (fun d o ρ => wFin ρ io fun l => P (.ok d o l)) (fun _ => False) (fun _ => False) (fun x ρ => wFin ρ io fun l => P (.exc x l))) : P (t.fnAt (n + 2) i args) := by
  show P (fnSem (t.at n) (t.defs i) args)
  rw [h1]
  unfold fnSem
  rw [if_pos hl]
  unfold wIn at h
  simp only at h ⊢
  cases hb : evSs (t.at n) body (shN io 0 args ++ List.replicate (ns - np) none) with
  | nx ρ =>
    rw [hb] at h
    simp only [wF, wFin] at h ⊢
    cases hf : finIo ρ io with
    | none => rw [hf] at h; exact h.elim
    | some l => rw [hf] at h; exact h
  | br ρ => rw [hb] at h; exact h.elim
  | ct ρ => rw [hb] at h; exact h.elim
  | rt d o ρ =>
    rw [hb] at h
    simp only [wF, wFin] at h ⊢
    cases hf : finIo ρ io with
    | none => rw [hf] at h; exact h.elim
    | some l => rw [hf] at h; exact h
  | exc x ρ =>
    rw [hb] at h
    simp only [wF, wFin] at h ⊢
    cases hf : finIo ρ io with
    | none => rw [hf] at h; exact h.elim
    | some l => rw [hf] at h; exact h
  | stuck => rw [hb] at h; exact h.elim
/-! ### loops -/
theorem wF_mono {r : Fl} {N' : FEnv → Prop} {R' : D → O → FEnv → Prop} {B' C' : FEnv → Prop} {X' : Exn → FEnv → Prop} (h : wF r N R B C X) (h1 : ∀ ρ, N ρ → N' ρ) (h2 : ∀ d o ρ, R d o ρ → R' d o ρ) (h3 : ∀ ρ, B ρ → B' ρ) (h4 : ∀ ρ, C ρ → C' ρ) (h5 : ∀ x ρ, X x ρ → X' x ρ) : wF r N' R' B' C' X' := by
  cases r with
  | nx ρ => exact h1 _ h
  | br ρ => exact h3 _ h
  | ct ρ => exact h4 _ h
  | rt d o ρ => exact h2 _ _ _ h
  | exc x ρ => exact h5 _ _ h
  | stuck => exact h
theorem wF_for {body : D → FEnv → Fl} (I : List D → FEnv → Prop) (hs : ∀ x xs ρ, I (x :: xs) ρ → wF (body x ρ) (I xs) R N (I xs) X) (he : ∀ ρ, I [] ρ → N ρ) : ∀ ds ρ, I ds ρ → wF (forLoop body ds ρ) N R B C X
  | [], ρ, h => he ρ h
  | x :: xs, ρ, h => by
    have h1 := hs x xs ρ h
    rw [forLoop]
    cases hb : body x ρ with
    | nx ρ' => rw [hb] at h1; exact wF_for I hs he xs ρ' h1
    | ct ρ' => rw [hb] at h1; exact wF_for I hs he xs ρ' h1
    | br ρ' => rw [hb] at h1; exact h1
    | rt d o ρ' => rw [hb] at h1; exact h1
    | exc x ρ' => rw [hb] at h1; exact h1
    | stuck => rw [hb] at h1; exact h1
/-- over data that a list stands for: what is done, what is left -/
theorem wF_forM {α : Type} {g : α → D} {body : D → FEnv → Fl} (I : List α → List α → FEnv → Prop) (hs : ∀ l x r ρ, I l (x :: r) ρ → wF (body (g x) ρ) (I (l ++ [x]) r) R N (I (l ++ [x]) r) X) : ∀ (r l : List α) (ρ : FEnv), I l r ρ → (∀ ρ, I (l ++ r) [] ρ → N ρ) → wF (forLoop body (r.map g) ρ) N R B C X
  | [], l, ρ, h, he => he ρ (by rw [List.append_nil]; exact h)
  | x :: xs, l, ρ, h, he => by
    have h1 := hs l x xs ρ h
    rw [List.map_cons, forLoop]
    have e : l ++ x :: xs = (l ++ [x]) ++ xs := by simp
    cases hb : body (g x) ρ with
    | nx ρ' => rw [hb] at h1; exact wF_forM I hs xs (l ++ [x]) ρ' h1 (by rw [← e]; exact he)
    | ct ρ' => rw [hb] at h1; exact wF_forM I hs xs (l ++ [x]) ρ' h1 (by rw [← e]; exact he)
    | br ρ' => rw [hb] at h1; exact h1
    | rt d o ρ' => rw [hb] at h1; exact h1
    | exc x ρ' => rw [hb] at h1; exact h1
    | stuck => rw [hb] at h1; exact h1
theorem f_nil {body : D → FEnv → Fl} : wF (forLoop body [] ρ) N R B C X = N ρ := (rfl)
theorem f_cons {body : D → FEnv → Fl} {d : D} {ds : List D} : wF (forLoop body (d :: ds) ρ) N R B C X = wF (body d ρ) (fun ρ' => wF (forLoop body ds ρ') N R B C X) R N (fun ρ' => wF (forLoop body ds ρ') N R B C X) X := by
  rw [forLoop]
  cases body d ρ <;> rfl
theorem wF_forBody {js : List Nat} {tp : Bool} {d : D} : wF (forBody js tp (evSs pg ss) d ρ) N R B C X = wTg js tp d ρ fun ρ' => wF (evSs pg ss ρ') N R B C X := by
  unfold forBody wTg
  cases bindTg js tp d ρ <;> rfl
/-! comprehensions -/
theorem lcB1 {js : List Nat} {tp : Bool} {ee : FEnv → Ev DO} {d : D} {P : Option D → FEnv → Prop} : (match lcBody js tp none ee d ρ with
    | .ok x ρ => P x ρ
    | _ => False) = wTg js tp d ρ fun ρ2 => wE (ee ρ2) (fun x _ ρ3 => wWp ρ3 js fun ρ4 => P (some x) ρ4) fun _ _ => False := by
  unfold lcBody wTg wWp
  cases bindTg js tp d ρ with
  | none => rfl
  | some ρ2 =>
    simp only
    cases ee ρ2 <;> rfl
/-- a comprehension without a test: each element by itself -/
theorem wLL_map {α : Type} {g : α → D} (h : α → D) {js : List Nat} {tp : Bool} {ee : FEnv → Ev DO} {P : List D → FEnv → Prop} {L : List α} (hs : ∀ x ∈ L, wTg js tp (g x) ρ fun ρ2 => wE (ee ρ2) (fun y _ ρ3 => wWp ρ3 js fun ρ4 => y = h x ∧ ρ4 = ρ) fun _ _ => False) (hk : P (L.map h) ρ) : wLL (lcLoop (lcBody js tp none ee) (L.map g) ρ) P := by
  have key : ∀ L : List α, (∀ x ∈ L, wTg js tp (g x) ρ fun ρ2 => wE (ee ρ2) (fun y _ ρ3 => wWp ρ3 js fun ρ4 => y = h x ∧ ρ4 = ρ) fun _ _ => False) → lcLoop (lcBody js tp none ee) (L.map g) ρ = .ok (L.map h) ρ := by
    intro L
    induction L with
    | nil => intro _; rfl
    | cons x L ih =>
      intro hs
      have h1 := hs x List.mem_cons_self
      have hb : lcBody js tp none ee (g x) ρ = .ok (some (h x)) ρ := by
        unfold wTg at h1
        unfold lcBody
        cases hbt : bindTg js tp (g x) ρ with
        | none => rw [hbt] at h1; exact h1.elim
        | some ρ2 =>
          rw [hbt] at h1
          simp only at h1 ⊢
          cases hee : ee ρ2 with
          | ok y ρ3 =>
            rw [hee] at h1
            obtain ⟨h2, h3⟩ := h1
            simp only [Ev.bind]
            rw [h2, h3]
          | exc _ _ => rw [hee] at h1; exact h1.elim
          | stuck => rw [hee] at h1; exact h1.elim
      rw [List.map_cons, lcLoop, hb]
      simp only
      rw [ih fun y hy => hs y (List.mem_cons_of_mem _ hy)]
      rfl
  rw [key L hs]
  exact hk
end
end FB
namespace FB
open PySem L2
/-! ### values -/
theorem qvAdd {i j : Int} : binD .Add (.int i) (.int j) = some (.int (i + j), .sh) := (rfl)
theorem qvSub {i j : Int} : binD .Sub (.int i) (.int j) = some (.int (i - j), .sh) := (rfl)
theorem qvMod {i j : Int} (h : 0 < j) : binD .Mod (.int i) (.int j) = some (.int (i % j), .sh) := by simp only [binD]; rw [if_pos h]
theorem qvDiv {i j : Int} (h : 0 < j) (h2 : j < 1073741824) : binD .FloorDiv (.int i) (.int j) = some (.int (i / j), .sh) := by simp only [binD]; rw [if_pos ⟨h, h2⟩]
theorem qvAnd {i j : Int} : binD .BitAnd (.int i) (.int j) = some (.int (Builtin.bitAnd i j), .sh) := (rfl)
theorem qvOr {i j : Int} : binD .BitOr (.int i) (.int j) = some (.int (Builtin.bitOr i j), .sh) := (rfl)
theorem qvXor {i j : Int} : binD .BitXor (.int i) (.int j) = some (.int (Builtin.bitXor i j), .sh) := (rfl)
theorem qvAddL {a b : List D} (h : a.length + b.length ≤ 16000000) : binD .Add (.lst a) (.lst b) = some (.lst (a ++ b), .root) := by simp only [binD]; rw [if_pos h]
theorem qvAddT {a b : List D} (h : a.length + b.length ≤ 16000000) : binD .Add (.tup a) (.tup b) = some (.tup (a ++ b), .sh) := by simp only [binD]; rw [if_pos h]
theorem qvMulL {d : D} {k : Nat} (h : k < 16000000) : binD .Mult (.lst [d]) (.int (k : Int)) = some (.lst (List.replicate k d), .root) := by
  have e : (k : Int).toNat < 16000000 ∧ [d].length * (k : Int).toNat ≤ 16000000 ∧ 0 ≤ (k : Int) := by
    refine ⟨by omega, ?_, by omega⟩
    rw [List.length_singleton, Int.toNat_natCast]
    omega
  simp only [binD]
  rw [if_pos e, Int.toNat_natCast]
  have : (List.replicate k [d]).flatten = List.replicate k d := by
    clear e h
    induction k with
    | zero => rfl
    | succ m ih => rw [List.replicate_succ, List.replicate_succ, List.flatten_cons, ih]; rfl
  rw [this]
theorem qvNeg {i : Int} : unD .USub (.int i) = some (.int (-i)) := (rfl)
theorem qvInv {i : Int} : unD .Invert (.int i) = some (.int (Builtin.bitNot i)) := (rfl)
theorem qvLt {i j : Int} : cmpD .Lt (.int i) (.int j) = some (decide (i < j)) := (rfl)
theorem qvLe {i j : Int} : cmpD .LtE (.int i) (.int j) = some (decide (i ≤ j)) := (rfl)
theorem qvGt {i j : Int} : cmpD .Gt (.int i) (.int j) = some (decide (j < i)) := (rfl)
theorem qvGe {i j : Int} : cmpD .GtE (.int i) (.int j) = some (decide (j ≤ i)) := (rfl)
theorem qeqD_I (i j : Int) : eqD (.int i) (.int j) = some (decide (i = j)) := by
  simp only [eqD, toPy, PyData.depth, PyData.eqv, Bool.beq_eq_decide_eq]
  rfl
theorem qeqD_S (a b : Str) : eqD (.str a) (.str b) = some (decide (a = b)) := by
  simp only [eqD, toPy, PyData.depth, PyData.eqv, Bool.beq_eq_decide_eq]
  rfl
theorem qvEqI {i j : Int} : cmpD .Eq (.int i) (.int j) = some (decide (i = j)) := qeqD_I i j
theorem qvNeI {i j : Int} : cmpD .NotEq (.int i) (.int j) = some (!decide (i = j)) := by simp only [cmpD, eqDD, qeqD_I, Option.map]
theorem qvEqS {i j : Str} : cmpD .Eq (.str i) (.str j) = some (decide (i = j)) := qeqD_S i j
theorem qvNeS {i j : Str} : cmpD .NotEq (.str i) (.str j) = some (!decide (i = j)) := by simp only [cmpD, eqDD, qeqD_S, Option.map]
theorem qvIs {a : D} : cmpD .Is a .non = some a.isNon := (rfl)
theorem qvIsB {a : D} {b : Bool} : cmpD .Is a (.bl b) = some (isB a b) := (rfl)
theorem qvIsNB {a : D} {b : Bool} : cmpD .IsNot a (.bl b) = some (!(isB a b)) := (rfl)
theorem qbN {b : Bool} : isB .non b = false := (rfl)
theorem qbB {a b : Bool} : isB (.bl a) b = (a == b) := (rfl)
theorem qbO {c : Nat} {f : List Str} {l : List D} {b : Bool} : isB (.obj c f l) b = false := (rfl)
theorem qbI {i : Int} {b : Bool} : isB (.int i) b = false := (rfl)
theorem qbS {i : Str} {b : Bool} : isB (.str i) b = false := (rfl)
theorem qbL {l : List D} {b : Bool} : isB (.lst l) b = false := (rfl)
theorem qbT {l : List D} {b : Bool} : isB (.tup l) b = false := (rfl)
theorem qvIsN {a : D} : cmpD .IsNot a .non = some (!a.isNon) := (rfl)
theorem qnN : D.isNon .non = true := (rfl)
theorem qnB {b : Bool} : D.isNon (.bl b) = false := (rfl)
theorem qnI {b : Int} : D.isNon (.int b) = false := (rfl)
theorem qnS {b : Str} : D.isNon (.str b) = false := (rfl)
theorem qnL {b : List D} : D.isNon (.lst b) = false := (rfl)
theorem qnT {b : List D} : D.isNon (.tup b) = false := (rfl)
theorem qnD {k : List Key} {b : List D} : D.isNon (.dic k b) = false := (rfl)
theorem qnO {c : Nat} {f : List Str} {b : List D} : D.isNon (.obj c f b) = false := (rfl)
theorem qtN : truD .non = some false := (rfl)
theorem qtB {b : Bool} : truD (.bl b) = some b := (rfl)
theorem qttI {b : Int} : truD (.int b) = some (b != 0) := (rfl)
theorem qtL {b : List D} : truD (.lst b) = some (!b.isEmpty) := (rfl)
theorem qttT {b : List D} : truD (.tup b) = some (!b.isEmpty) := (rfl)
theorem qlL {b : List D} : biD .len [.lst b] = some (.int b.length, .sh) := (rfl)
theorem qlT {b : List D} : biD .len [.tup b] = some (.int b.length, .sh) := (rfl)
theorem qlF {b : List D} : biD .len [.frz b] = some (.int b.length, .sh) := (rfl)
theorem qlD {k : List Key} {b : List D} : biD .len [.dic k b] = some (.int k.length, .sh) := (rfl)
theorem qliL {b : List D} : biD .list [.lst b] = some (.lst b, .root) := (rfl)
theorem qliT {b : List D} : biD .list [.tup b] = some (.lst b, .root) := (rfl)
theorem qliF {b : List D} : biD .list [.frz b] = some (.lst b, .root) := (rfl)
theorem qtuL {b : List D} : biD .tuple [.lst b] = some (.tup b, .sh) := (rfl)
theorem qtuT {b : List D} : biD .tuple [.tup b] = some (.tup b, .sh) := (rfl)
theorem qdiD {k : List Key} {b : List D} : biD .dict [.dic k b] = some (.dic k b, .root) := (rfl)
theorem qiI {i : Int} : biD .int [.int i] = some (.int i, .sh) := (rfl)
theorem qiB {b : Bool} : biD .int [.bl b] = some (.int (if b then 1 else 0), .sh) := (rfl)
theorem qmxI {i j : Int} : biD .max [.int i, .int j] = some (.int (if j > i then j else i), .sh) := (rfl)
theorem qmnI {i j : Int} : biD .min [.int i, .int j] = some (.int (if j < i then j else i), .sh) := (rfl)
theorem qsmL {b : List D} : biD .sum [.lst b] = (allInt b).map fun is => (.int is.sum, .sh) := (rfl)
theorem qalL {b : List D} : biD .all [.lst b] = (allTru b).map fun is => (.bl (is.all id), .sh) := (rfl)
theorem qanL {b : List D} : biD .any [.lst b] = (allTru b).map fun is => (.bl (is.any id), .sh) := (rfl)
theorem qsqL {b : List D} : seqD (.lst b) = some b := (rfl)
theorem qsqT {b : List D} : seqD (.tup b) = some b := (rfl)
theorem qsqF {b : List D} : seqD (.frz b) = some b := (rfl)
theorem qatI_k {ds : List D} {k : Nat} : atI ds (k : Int) = ds[k]? := by
  unfold atI ixN
  rw [if_pos (by omega)]
  by_cases h : k < ds.length
  · rw [if_pos (by omega)]; simp
  · rw [if_neg (by omega)]; simp [List.getElem?_eq_none (Nat.le_of_not_lt h)]
theorem qixL {ds : List D} {k : Nat} : ixD (.lst ds) (.int (k : Int)) = ds[k]? := qatI_k
theorem qixT {ds : List D} {k : Nat} : ixD (.tup ds) (.int (k : Int)) = ds[k]? := qatI_k
theorem qixF {ds : List D} {k : Nat} : ixD (.frz ds) (.int (k : Int)) = ds[k]? := qatI_k
theorem qixL0 {a : D} {l : List D} : ixD (.lst (a :: l)) (.int 0) = some a := qixL (k := 0)
theorem qixL1 {a b : D} {l : List D} : ixD (.lst (a :: b :: l)) (.int 1) = some b := qixL (k := 1)
theorem qixL2 {a b c : D} {l : List D} : ixD (.lst (a :: b :: c :: l)) (.int 2) = some c := qixL (k := 2)
theorem qixL3 {a b c d : D} {l : List D} : ixD (.lst (a :: b :: c :: d :: l)) (.int 3) = some d := qixL (k := 3)
theorem qixL4 {a b c d e : D} {l : List D} : ixD (.lst (a :: b :: c :: d :: e :: l)) (.int 4) = some e := qixL (k := 4)
theorem qixT0 {a : D} {l : List D} : ixD (.tup (a :: l)) (.int 0) = some a := qixT (k := 0)
theorem qixT1 {a b : D} {l : List D} : ixD (.tup (a :: b :: l)) (.int 1) = some b := qixT (k := 1)
theorem qixT2 {a b c : D} {l : List D} : ixD (.tup (a :: b :: c :: l)) (.int 2) = some c := qixT (k := 2)
theorem qixT3 {a b c d : D} {l : List D} : ixD (.tup (a :: b :: c :: d :: l)) (.int 3) = some d := qixT (k := 3)
theorem qixT4 {a b c d e : D} {l : List D} : ixD (.tup (a :: b :: c :: d :: e :: l)) (.int 4) = some e := qixT (k := 4)
theorem qixLb {a b : D} {c : Bool} : ixD (.lst [a, b]) (.bl c) = some (if c then b else a) := by cases c <;> rfl
theorem qslTf {ds : List D} {k : Nat} : slD (.tup ds) (some (k : Int)) none = some (.tup (ds.drop k), .sh) := by
  simp only [slD, cutL]
  have h1 : HT.sIx ds.length 0 (some (k : Int)) = min k ds.length := HT.sIx_nat _ _ k
  rw [h1, HT.sIx_none]
  congr 3
  by_cases h : k ≤ ds.length
  · rw [Nat.min_eq_left h, List.take_of_length_le (by rw [List.length_drop]; omega)]
  · rw [Nat.min_eq_right (by omega), List.drop_of_length_le (Nat.le_refl _), List.drop_of_length_le (by omega), List.take_nil]
theorem qslLf {ds : List D} {k : Nat} : slD (.lst ds) (some (k : Int)) none = some (.lst (ds.drop k), .root) := by
  simp only [slD, cutL]
  have h1 : HT.sIx ds.length 0 (some (k : Int)) = min k ds.length := HT.sIx_nat _ _ k
  rw [h1, HT.sIx_none]
  congr 3
  by_cases h : k ≤ ds.length
  · rw [Nat.min_eq_left h, List.take_of_length_le (by rw [List.length_drop]; omega)]
  · rw [Nat.min_eq_right (by omega), List.drop_of_length_le (Nat.le_refl _), List.drop_of_length_le (by omega), List.take_nil]
theorem qslLt {ds : List D} {k : Nat} : slD (.lst ds) none (some (k : Int)) = some (.lst (ds.take k), .root) := by
  simp only [slD, cutL]
  have h2 : HT.sIx ds.length ds.length (some (k : Int)) = min k ds.length := HT.sIx_nat _ _ k
  rw [h2, HT.sIx_none, List.drop_zero, Nat.sub_zero]
  congr 3
  rw [List.take_eq_take_iff]
  omega
theorem qslTt {ds : List D} {k : Nat} : slD (.tup ds) none (some (k : Int)) = some (.tup (ds.take k), .sh) := by
  simp only [slD, cutL]
  have h2 : HT.sIx ds.length ds.length (some (k : Int)) = min k ds.length := HT.sIx_nat _ _ k
  rw [h2, HT.sIx_none, List.drop_zero, Nat.sub_zero]
  congr 3
  rw [List.take_eq_take_iff]
  omega
theorem qslT1 {a : D} {l : List D} : slD (.tup (a :: l)) (some 1) none = some (.tup l, .sh) := qslTf (k := 1)
theorem qslT2 {a b : D} {l : List D} : slD (.tup (a :: b :: l)) (some 2) none = some (.tup l, .sh) := qslTf (k := 2)
theorem qslL1 {a : D} {l : List D} : slD (.lst (a :: l)) (some 1) none = some (.lst l, .root) := qslLf (k := 1)
theorem qslFf {ds : List D} {a b : Nat} : slD (.frz ds) (some (a : Int)) (some (b : Int)) = some (.lst ((ds.drop a).take (b - a)), .root) := by
  simp only [slD, cutL]
  have h1 : HT.sIx ds.length 0 (some (a : Int)) = min a ds.length := HT.sIx_nat _ _ a
  have h2 : HT.sIx ds.length ds.length (some (b : Int)) = min b ds.length := HT.sIx_nat _ _ b
  rw [h1, h2]
  congr 3
  by_cases h : a ≤ ds.length
  · rw [Nat.min_eq_left h, List.take_eq_take_iff, List.length_drop]
    omega
  · rw [Nat.min_eq_right (Nat.le_of_lt (Nat.lt_of_not_le h)), List.drop_of_length_le (Nat.le_refl _), List.drop_of_length_le (by omega), List.take_nil, List.take_nil]
theorem qmuApp {ds : List D} {d : D} (h : ds.length < 16000000) : muD .append (.lst ds) [d] = some (.non, .lst (ds ++ [d])) := by simp only [muD]; rw [if_pos h]
theorem qmuExt {ds es : List D} (h : ds.length + es.length ≤ 16000000) : muD .extend (.lst ds) [.lst es] = some (.non, .lst (ds ++ es)) := by simp only [muD]; rw [if_pos h]
theorem qmuPop {ds : List D} {d : D} (h : ds.getLast? = some d) : muD .pop (.lst ds) [] = some (d, .lst ds.dropLast) := by simp only [muD]; rw [h]
theorem qmuClr {ds : List D} : muD .clear (.lst ds) [] = some (.non, .lst []) := (rfl)
theorem qmuClD {k : List Key} {ds : List D} : muD .clearD (.dic k ds) [] = some (.non, .dic [] []) := (rfl)
theorem qtyL1 {ds : List D} : tyM .append (.lst ds) = true := (rfl)
theorem qtyL2 {ds : List D} : tyM .extend (.lst ds) = true := (rfl)
theorem qtyL3 {ds : List D} : tyM .pop (.lst ds) = true := (rfl)
theorem qtyL4 {ds : List D} : tyM .clear (.lst ds) = true := (rfl)
theorem qtyL5 {k : List Key} {ds : List D} : tyM .clearD (.dic k ds) = true := (rfl)
theorem qgaN {att : Nat → Str → Bool} {x : DO} : getAt att [] x = some x := (rfl)
theorem qsaN {x y : DO} : setAt [] x y = some y := (rfl)
theorem qseL {ds : List D} {k : Nat} {y : D} (h : k < ds.length) : setD (.lst ds) (.int (k : Int)) y = some (.lst (ds.set k y)) := by
  simp only [setD, ixN]
  rw [if_pos (by omega), if_pos (by omega)]
  simp
theorem qkeI {i : Int} : keyD (.int i) = some (.inl i) := (rfl)
theorem qkeS {i : Str} : keyD (.str i) = some (.inr i) := (rfl)
end FB
namespace FB
theorem wF_nx {ρ : FEnv} {N : FEnv → Prop} {R : D → O → FEnv → Prop} {B C : FEnv → Prop} {X : Exn → FEnv → Prop} : wF (.nx ρ) N R B C X = N ρ := (rfl)
theorem wF_rt {d : D} {o : O} {ρ : FEnv} {N : FEnv → Prop} {R : D → O → FEnv → Prop} {B C : FEnv → Prop} {X : Exn → FEnv → Prop} : wF (.rt d o ρ) N R B C X = R d o ρ := (rfl)
theorem wF_exc {x : Exn} {ρ : FEnv} {N : FEnv → Prop} {R : D → O → FEnv → Prop} {B C : FEnv → Prop} {X : Exn → FEnv → Prop} : wF (.exc x ρ) N R B C X = X x ρ := (rfl)
end FB
namespace FB
open PySem L2
theorem qixLast {ds : List D} : ixD (.lst ds) (.int (-1)) = ds.getLast? := by
  show atI ds (-1) = _
  unfold atI ixN
  rw [if_neg (by omega)]
  cases ds with
  | nil => simp
  | cons d ds =>
    rw [if_pos (by simp only [List.length_cons]; omega)]
    have e : ((-1 : Int) + ((d :: ds).length : Nat)).toNat = (d :: ds).length - 1 := by simp only [List.length_cons]; omega
    simp only [Option.bind_some, e]
    exact (List.getLast?_eq_getElem? ..).symm
theorem qslInit {ds : List D} : slD (.lst ds) none (some (-1)) = some (.lst ds.dropLast, .root) := by
  simp only [slD, cutL, HT.sIx_none, List.drop_zero, Nat.sub_zero]
  have e : HT.sIx ds.length ds.length (some (-1)) = ds.length - 1 := by
    show (if (-1 : Int) < 0 then ((-1 : Int) + (ds.length : Int)).toNat else min (-1 : Int).toNat ds.length) = _
    rw [if_pos (by omega)]
    omega
  rw [e, List.dropLast_eq_take]
theorem qix2 {a b z : Int} : ixD (.lst [.int a, .int b]) (.int (z % 2)) = some (.int (if z % 2 = 0 then a else b)) := by
  have h : z % 2 = 0 ∨ z % 2 = 1 := by omega
  rcases h with h | h <;> rw [h] <;> rfl
theorem qpow {i : Int} {j : Int} (h : 0 ≤ j) (h2 : j ≤ 1000000) (h3 : i.natAbs < 18446744073709551616) : binD .Pow (.int i) (.int j) = some (.int (i ^ j.toNat), .sh) := by
  simp only [binD]; rw [if_pos ⟨h, h2, h3⟩]
theorem qmul {i j : Int} (h : 0 ≤ i) (h2 : i ≤ 4294967296) : binD .Mult (.int i) (.int j) = some (.int (i * j), .sh) := by
  simp only [binD]
  have : small64 i = true := by
    unfold small64
    simp only [Bool.and_eq_true, decide_eq_true_eq]
    omega
  rw [this]; rfl
end FB
namespace FB
open PySem L2
theorem qallT {α : Type} {L : List α} : biD .all [.lst (L.map fun _ => D.bl true)] = some (.bl true, .sh) := by
  have e : allTru (L.map fun _ => D.bl true) = some (L.map fun _ => true) := by
    induction L with
    | nil => rfl
    | cons x L ih => simp only [List.map_cons, allTru, ih, Option.map_some]
  simp only [biD, e, Option.map_some]
  congr 3
  rw [List.all_map]
  exact List.all_eq_true.mpr fun _ _ => rfl
theorem sameF_self {d : D} (h : d.flat = true) : sameF d d = true := by cases d <;> simp_all [sameF, D.flat]
theorem dicGet_mem {k : Key} {d : D} : ∀ {ks : List Key} {ds : List D}, ks.Nodup → (k, d) ∈ ks.zip ds → dicGet ks ds k = some d
  | [], _, _, h => by cases h
  | _ :: _, [], _, h => by cases h
  | l :: ks, e :: ds, n, h => by
    rw [List.nodup_cons] at n
    rw [List.zip_cons_cons, List.mem_cons] at h
    rcases h with h | h
    · cases h
      simp [dicGet]
    · have hne : l ≠ k := fun z => n.1 (by rw [z]; exact (List.of_mem_zip h).1)
      simp only [dicGet, hne, if_false]
      exact dicGet_mem n.2 h
theorem sameDic_self {ks : List Key} {ds : List D} (n : ks.Nodup) (h : ∀ d ∈ ds, d.flat = true) : sameDic ks ds ks ds = true := by
  unfold sameDic
  rw [Bool.and_eq_true]
  refine ⟨by simp, List.all_eq_true.mpr fun p hp => ?_⟩
  obtain ⟨k, d⟩ := p
  simp only [dicGet_mem n hp]
  exact sameF_self (h d (List.of_mem_zip hp).2)
theorem qeqDic {ks : List Key} {ds : List D} (n : ks.Nodup) (h : ∀ d ∈ ds, d.flat = true) : cmpD .Eq (.dic ks ds) (.dic ks ds) = some true := by
  simp only [cmpD, eqDD, sameDic_self n h, if_true]
theorem qneDic {ks : List Key} {ds : List D} (n : ks.Nodup) (h : ∀ d ∈ ds, d.flat = true) : cmpD .NotEq (.dic ks ds) (.dic ks ds) = some false := by
  simp only [cmpD, eqDD, sameDic_self n h, if_true]
  rfl
end FB
namespace FB
open PySem L2
/-! loops and comprehensions -/
/-- a statement by itself -/
theorem wF_step {r : Fl} {N : FEnv → Prop} {R : D → O → FEnv → Prop} {B C : FEnv → Prop} {X : Exn → FEnv → Prop} (ρ1 : FEnv) (h : wF r (fun ρ => ρ = ρ1) (fun _ _ _ => False) (fun _ => False) (fun _ => False) fun _ _ => False) (h2 : N ρ1) : wF r N R B C X := by
  cases r with
  | nx ρ =>
    have h : ρ = ρ1 := h
    subst h
    exact h2
  | _ => exact h.elim
theorem wF_nxeq {r : Fl} {ρ1 : FEnv} (h : wF r (fun ρ => ρ = ρ1) (fun _ _ _ => False) (fun _ => False) (fun _ => False) fun _ _ => False) : r = .nx ρ1 := by
  cases r with
  | nx ρ => exact congrArg Fl.nx h
  | _ => exact h.elim
theorem evSs_nx {pg : Pg} {s : S} {ss : Ss} {ρ ρ1 : FEnv} (h : evS pg s ρ = .nx ρ1) : evSs pg (.cons s ss) ρ = evSs pg ss ρ1 := by
  rw [evSs, h]; rfl
theorem forBody_1 {b : FEnv → Fl} {j : Nat} {d : D} {ρ : FEnv} : forBody [j] false b d ρ = b (ρ.set j (some (d, .sh))) := (rfl)
theorem evSs_nil {pg : Pg} {ρ : FEnv} : evSs pg .nil ρ = .nx ρ := (rfl)
theorem wF_eqnx {r : Fl} {P : FEnv → Prop} (h : wF r P (fun _ _ _ => False) (fun _ => False) (fun _ => False) fun _ _ => False) : ∃ ρ, r = .nx ρ ∧ P ρ := by
  cases r with
  | nx ρ => exact ⟨ρ, rfl, h⟩
  | _ => exact h.elim
theorem lcBody_ex {α : Type} {g : α → D} {P : α → Prop} {js : List Nat} {tp : Bool} {ee : FEnv → Ev DO} {d : D} {ρ : FEnv} (h : wTg js tp d ρ fun ρ2 => wE (ee ρ2) (fun y _ ρ3 => wWp ρ3 js fun ρ4 => ∃ a, P a ∧ y = g a ∧ ρ4 = ρ) fun _ _ => False) : ∃ a, P a ∧ lcBody js tp none ee d ρ = .ok (some (g a)) ρ := by
  unfold wTg at h
  unfold lcBody
  split at h
  · rename_i ρ2 e
    try rw [e]
    try simp only
    cases ev : ee ρ2 with
    | ok x ρ3 =>
      rw [ev] at h
      obtain ⟨a, p, e1, e2⟩ := h
      exact ⟨a, p, by simp only [Ev.bind]; rw [e1, e2]⟩
    | exc x ρ3 => rw [ev] at h; exact h.elim
    | stuck => rw [ev] at h; exact h.elim
  · exact h.elim
theorem lcLoop_ex {α : Type} {g : α → D} {P : α → Prop} {body : D → FEnv → Ev (Option D)} {ρ : FEnv} : ∀ {ds : List D}, (∀ d ∈ ds, ∃ a, P a ∧ body d ρ = .ok (some (g a)) ρ) → ∃ as : List α, as.length = ds.length ∧ (∀ a ∈ as, P a) ∧ lcLoop body ds ρ = .ok (as.map g) ρ
  | [], _ => ⟨[], rfl, by simp, rfl⟩
  | d :: ds, H => by
    obtain ⟨a, p, e⟩ := H d List.mem_cons_self
    obtain ⟨as, l, q, e2⟩ := lcLoop_ex (ds := ds) fun x hx => H x (List.mem_cons_of_mem _ hx)
    refine ⟨a :: as, by simp [l], fun x hx => ?_, ?_⟩
    · rcases List.mem_cons.mp hx with h | h
      · rw [h]; exact p
      · exact q x h
    · simp only [lcLoop, e, e2, List.map_cons]
theorem lcBody_eq {js : List Nat} {tp : Bool} {ee : FEnv → Ev DO} {d z : D} {ρ : FEnv} (h : wTg js tp d ρ fun ρ2 => wE (ee ρ2) (fun y _ ρ3 => wWp ρ3 js fun ρ4 => y = z ∧ ρ4 = ρ) fun _ _ => False) : lcBody js tp none ee d ρ = .ok (some z) ρ := by
  obtain ⟨a, p, e⟩ := lcBody_ex (α := D) (g := id) (P := fun a => a = z) (ee := ee) (d := d) (js := js) (tp := tp) (ρ := ρ) (by
    unfold wTg at h ⊢
    split at h
    · rename_i ρ2 e
      cases ev : ee ρ2 with
      | ok x ρ3 =>
        rw [ev] at h
        exact ⟨z, rfl, h⟩
      | exc x ρ3 => rw [ev] at h; exact h.elim
      | stuck => rw [ev] at h; exact h.elim
    · exact h.elim)
  rw [e, p]; rfl
theorem lcLoop_mg {α : Type} {g h : α → D} {body : D → FEnv → Ev (Option D)} {ρ : FEnv} : ∀ {L : List α}, (∀ a ∈ L, body (g a) ρ = .ok (some (h a)) ρ) → lcLoop body (L.map g) ρ = .ok (L.map h) ρ
  | [], _ => rfl
  | a :: L, H => by
    simp only [List.map_cons, lcLoop, H a List.mem_cons_self, lcLoop_mg (L := L) fun x hx => H x (List.mem_cons_of_mem _ hx)]
theorem forLoop_nx {body : D → FEnv → Fl} {d : D} {ds : List D} {ρ ρ' : FEnv} (h : body d ρ = .nx ρ') : forLoop body (d :: ds) ρ = forLoop body ds ρ' := by rw [forLoop, h]

/-! ### more rules -/
section
variable {pg : Pg} {e a b c : E} {es : Es} {ρ : FEnv} {Q : D → O → FEnv → Prop} {X : Exn → FEnv → Prop} {i : Nat}
def wOwn (d : D) (o : O) (P : Prop) (_ : Dm P := ()) : Prop := ownD d o = true ∧ P
def wFls (ds : List D) (P : Prop) (_ : Dm P := ()) : Prop := ds.all D.flat = true ∧ P
theorem wOwn_of {d : D} {o : O} {P : Prop} (h : ownD d o = true) : wOwn d o P = P := by simp [wOwn, h]
theorem wOwn_I {j : Int} {P : Prop} : wOwn (.int j) .sh P = P := by simp [wOwn, ownD]
theorem wOwn_N {P : Prop} : wOwn .non .sh P = P := by simp [wOwn, ownD]
theorem wOwn_B {j : Bool} {P : Prop} : wOwn (.bl j) .sh P = P := by simp [wOwn, ownD]
theorem wOwn_S {j : Str} {P : Prop} : wOwn (.str j) .sh P = P := by simp [wOwn, ownD]
theorem wOwn_tR {ds : List D} {P : Prop} : wOwn (.tup ds) .root P = wFls ds P := by simp [wOwn, ownD, wFls]
theorem wOwn_lR {ds : List D} {P : Prop} : wOwn (.lst ds) .root P = wFls ds P := by simp [wOwn, ownD, wFls]
theorem wFls_nil {P : Prop} : wFls [] P = P := by simp [wFls]
theorem wFls_cons {d : D} {ds : List D} {P : Prop} : wFls (d :: ds) P = wFlat d (wFls ds P) := by simp [wFls, wFlat, and_assoc]
theorem wFls_of {ds : List D} {P : Prop} (h : ds.all D.flat = true) : wFls ds P = P := by simp [wFls, h]
theorem wFls_int {α : Type} {f : α → Int} {L : List α} {P : Prop} : wFls (L.map fun x => D.int (f x)) P = P := by simp [wFls, D.flat]
theorem r_borL : wE (evE pg (.borL e) ρ) Q X = wSh ρ fun ρs => wE (evE pg e ρs) (fun d o _ => wOwn d o (Q d o ρ)) (fun x _ => X x ρ) := by
  rw [evE]
  simp only [wSh]
  cases evE pg e (sharedEnv ρ) with
  | ok x ρ1 =>
    obtain ⟨d, o⟩ := x
    simp only [wE, wOwn]
    cases ownD d o <;> simp
  | exc x ρ1 => rfl
  | stuck => rfl
theorem r_isi2 {t1 t2 : Ty} : wE (evE pg (.isi2 a t1 t2) ρ) Q X = wE (evE pg a ρ) (fun x _ ρ1 => wO (isk2 pg.isk (kdOf x) t1 t2) fun b => Q (.bl b) .sh ρ1) X := by
  rw [evE, wE_bindE]
  refine wE_eq fun x o ρ1 => ?_
  cases isk2 pg.isk (kdOf x) t1 t2 <;> rfl
def wBk (bk : List (Option Nat)) (io : List DO) (ρ : FEnv) (K : FEnv → Prop) (_ : Dm K := ()) : Prop := match backIo bk io ρ with
  | some ρ' => K ρ'
  | none => False
theorem wBk_nil {K : FEnv → Prop} : wBk [] [] ρ K = K ρ := (rfl)
theorem wBk_n {x : DO} {bk : List (Option Nat)} {io : List DO} {K : FEnv → Prop} : wBk (none :: bk) (x :: io) ρ K = wBk bk io ρ K := by simp [wBk, backIo]
theorem wBk_s {x : DO} {j : Nat} {bk : List (Option Nat)} {io : List DO} {K : FEnv → Prop} : wBk (some j :: bk) (x :: io) ρ K = wNo ρ j (wS ρ j (some x) fun ρ' => wBk bk io ρ' K) := by
  unfold wBk wNo wS
  cases e : ρ[j]? with
  | none => simp [backIo, e]
  | some y => cases y <;> simp [backIo, e]
theorem wR_okB {d : D} {o : O} {io : List DO} {bk : List (Option Nat)} : wR (.ok d o io) bk ρ Q X = wBk bk io ρ fun ρ' => Q d o ρ' := by
  show wE (match backIo bk io ρ with | some ρ' => .ok (d, o) ρ' | none => .stuck) Q X = _
  unfold wBk
  cases backIo bk io ρ <;> rfl
theorem wR_excB {x : Exn} {io : List DO} {bk : List (Option Nat)} : wR (.exc x io) bk ρ Q X = wBk bk io ρ fun ρ' => X x ρ' := by
  show wE (match backIo bk io ρ with | some ρ' => .exc x ρ' | none => .stuck) Q X = _
  unfold wBk
  cases backIo bk io ρ <;> rfl
theorem wR_okN {d : D} {o : O} {io : List DO} {bk : List (Option Nat)} : wR (.ok d o io) (none :: bk) ρ Q X = wBk (none :: bk) io ρ fun ρ' => Q d o ρ' := wR_okB
theorem wR_okS {d : D} {o : O} {io : List DO} {j : Nat} {z : Option Nat} {bk : List (Option Nat)} : wR (.ok d o io) (some j :: z :: bk) ρ Q X = wBk (some j :: z :: bk) io ρ fun ρ' => Q d o ρ' := wR_okB
theorem wR_excN {x : Exn} {io : List DO} {bk : List (Option Nat)} : wR (.exc x io) (none :: bk) ρ Q X = wBk (none :: bk) io ρ fun ρ' => X x ρ' := wR_excB
theorem wR_excS {x : Exn} {io : List DO} {j : Nat} {z : Option Nat} {bk : List (Option Nat)} : wR (.exc x io) (some j :: z :: bk) ρ Q X = wBk (some j :: z :: bk) io ρ fun ρ' => X x ρ' := wR_excB
theorem wFin_2 {j k : Nat} {js : List Nat} {P : List DO → Prop} : wFin ρ (j :: k :: js) P = wG ρ j fun d o => wS ρ j none fun ρ' => wFin ρ' (k :: js) fun l => P ((d, o) :: l) := by
  unfold wFin wG wS
  cases e : ρ[j]? with
  | none => rw [finIo, e]
  | some y => cases y with
    | none => rw [finIo, e]
    | some x =>
      rw [finIo, e]
      simp only
      cases finIo (ρ.set j none) (k :: js) <;> rfl
theorem wIn_ct {n k a : Nat} {l : List Nat} {d : D} {o : O} {xs : List DO} {P : FEnv → Prop} (h : (a :: l).contains k = true) : wIn (a :: l) k ((d, o) :: xs) n P = wIn (a :: l) (k + 1) xs n fun ρ => P (some (d, o) :: ρ) := by
  unfold wIn
  rw [shN, if_pos h]
  rfl
theorem wIn_cf {n k a : Nat} {l : List Nat} {d : D} {o : O} {xs : List DO} {P : FEnv → Prop} (h : (a :: l).contains k = false) : wIn (a :: l) k ((d, o) :: xs) n P = wIn (a :: l) (k + 1) xs n fun ρ => P (some (d, .sh) :: ρ) := by
  unfold wIn
  rw [shN, if_neg (by rw [h]; decide)]
  rfl
theorem shX_some {d : D} {o : O} : shX (some (d, o)) = some (d, .sh) := (rfl)
theorem shX_none : shX none = none := (rfl)
theorem wl_s {tt : FEnv → Ev Bool} {body : FEnv → Fl} {n : Nat} {N : FEnv → Prop} {R : D → O → FEnv → Prop} {B C : FEnv → Prop} : wF (whLoop tt body (n + 1) ρ) N R B C X = wT (tt ρ) (fun b ρ1 => wIf b (wF (body ρ1) (fun ρ' => wF (whLoop tt body n ρ') N R B C X) R N (fun ρ' => wF (whLoop tt body n ρ') N R B C X) X) (N ρ1)) X := by
  rw [whLoop, wF_flT]
  refine wT_eq fun b ρ1 => ?_
  cases b with
  | false => simp only [wIf_false, Bool.false_eq_true, if_false]; rfl
  | true =>
    simp only [wIf_true, if_true]
    cases body ρ1 <;> rfl
variable {t : Tab} {n f : Nat} {m : Str} {x : Option Nat} {bk : List (Option Nat)}
theorem r_mthB : wE (evE (t.at n) (.mth a m es [] (x :: bk)) ρ) Q X = wE (evE (t.at n) a ρ) (fun d o ρ1 => wO (mthO (t.at n) d m) fun f => wGd (bkOk (none :: holdsOf es) (t.defs f).io (x :: bk) = true) (wA (evEs (t.at n) es ρ1) (fun xs ρ2 => wR (t.fnAt (n + 1) f ((d, o) :: xs)) (x :: bk) ρ2 Q X) X)) X := by
  rw [evE, wE_bindE]
  refine wE_eq fun d o ρ1 => ?_
  cases d with
  | obj c fs ds =>
    simp only [mthO]
    cases hc : fs.contains m with
    | true => rfl
    | false =>
      simp only [Bool.false_eq_true, if_false]
      cases hm : (t.at n).mth c m with
      | none => rfl
      | some f =>
        simp only [opt, wO]
        have e : (t.at n).iof f = (t.defs f).io := rfl
        rw [e]
        cases hb : bkOk (none :: holdsOf es) (t.defs f).io (x :: bk) with
        | true =>
          simp only [if_true, wGd, true_and]
          rw [wE_bindEs]
          refine wA_eq fun xs ρ => ?_
          simp only [dflt, List.map_nil, List.append_nil]
          rfl
        | false =>
          simp only [Bool.false_eq_true, if_false, wGd, false_and]
          rfl
  | _ => rfl
theorem r_mthIB : wE (evE (t.at n) (.mthI i m es [] (x :: bk)) ρ) Q X = wG ρ i fun d _ => wO (mthO (t.at n) d m) fun f => wGd (bkOk (some i :: holdsOf es) (t.defs f).io (some i :: x :: bk) = true) (wA (evEs (t.at n) es ρ) (fun xs ρ1 => wG ρ1 i fun d o => wS ρ1 i none fun ρ2 => wR (t.fnAt (n + 1) f ((d, o) :: xs)) (some i :: x :: bk) ρ2 Q X) X) := by
  rw [evE]
  unfold wG
  cases ρ[i]? with
  | none => rfl
  | some y => cases y with
    | none => rfl
    | some z =>
      obtain ⟨d, o⟩ := z
      cases d with
      | obj c fs ds =>
        simp only [mthO]
        cases hc : fs.contains m with
        | true => rfl
        | false =>
          simp only [Bool.false_eq_true, if_false]
          cases hm : (t.at n).mth c m with
          | none => rfl
          | some f =>
            simp only [opt, wO]
            have e : (t.at n).iof f = (t.defs f).io := rfl
            rw [e]
            cases hb : bkOk (some i :: holdsOf es) (t.defs f).io (some i :: x :: bk) with
            | true =>
              simp only [if_true, wGd, true_and]
              rw [wE_bindEs]
              refine wA_eq fun xs ρ1 => ?_
              simp only [dflt, List.map_nil, List.append_nil]
              cases ρ1[i]? with
              | none => rfl
              | some y => cases y <;> rfl
            | false =>
              simp only [Bool.false_eq_true, if_false, wGd, false_and]
              rfl
      | _ => rfl
end
theorem wTg_l {js : List Nat} {ds : List D} {ρ : FEnv} {P : FEnv → Prop} : wTg js true (.lst ds) ρ P = wTs js ds ρ P := by
  unfold wTg wTs
  have e : bindTg js true (.lst ds) ρ = if js.length = ds.length then some ((js.zip ds).foldl (fun ρ x => ρ.set x.1 (some (x.2, .sh))) ρ) else none := by
    match js with
    | [] => rfl
    | [_] => rfl
    | _ :: _ :: _ => rfl
  rw [e]
  by_cases h : js.length = ds.length
  · simp [h]
  · simp [h]
/-! a tuple's parts as they are owned -/
def wUn (js : List Nat) (d : D) (o : O) (ρ : FEnv) (P : FEnv → Prop) (_ : Dm P := ()) : Prop := match bindO js d o ρ with
  | some ρ' => P ρ'
  | none => False
def wTo (js : List Nat) (ds : List D) (os : List O) (ρ : FEnv) (P : FEnv → Prop) (_ : Dm P := ()) : Prop := (js.length = ds.length ∧ ds.length = os.length) ∧ P ((js.zip (ds.zip os)).foldl (fun ρ x => ρ.set x.1 (some x.2)) ρ)
theorem wUn_n {js : List Nat} {ds : List D} {os : List O} {ρ : FEnv} {P : FEnv → Prop} : wUn js (.tup ds) (.node os) ρ P = wTo js ds os ρ P := by
  unfold wUn wTo
  simp only [bindO]
  by_cases h : js.length = ds.length ∧ ds.length = os.length
  · rw [if_pos h]; simp [h]
  · rw [if_neg h]; simp [h]
theorem wUn_sh {js : List Nat} {d : D} {ρ : FEnv} {P : FEnv → Prop} : wUn js d .sh ρ P = wTg js true d ρ P := by
  unfold wUn wTg
  cases d <;> rfl
theorem wUn_root {js : List Nat} {d : D} {ρ : FEnv} {P : FEnv → Prop} : wUn js d .root ρ P = wTg js true d ρ P := by
  unfold wUn wTg
  cases d <;> rfl
theorem wTo_nil {ρ : FEnv} {P : FEnv → Prop} : wTo [] [] [] ρ P = P ρ := by simp [wTo]
theorem wTo_cons {j : Nat} {js : List Nat} {d : D} {ds : List D} {o : O} {os : List O} {ρ : FEnv} {P : FEnv → Prop} : wTo (j :: js) (d :: ds) (o :: os) ρ P = wS ρ j (some (d, o)) fun ρ' => wTo js ds os ρ' P := by simp [wTo, wS]
theorem s_unpO {pg : Pg} {e : E} {ρ : FEnv} {js : List Nat} {N : FEnv → Prop} {R : D → O → FEnv → Prop} {B C : FEnv → Prop} {X : Exn → FEnv → Prop} : wF (evS pg (.unpO js e) ρ) N R B C X = wE (evE pg e ρ) (fun d o ρ1 => wUn js d o ρ1 N) X := by
  rw [evS]
  unfold wE wUn
  cases evE pg e ρ with
  | ok x ρ1 =>
    show wF (match bindO js x.1 x.2 ρ1 with | some ρ2 => Fl.nx ρ2 | none => Fl.stuck) N R B C X = match bindO js x.1 x.2 ρ1 with | some ρ' => N ρ' | none => False
    cases bindO js x.1 x.2 ρ1 <;> rfl
  | _ => rfl
end FB
namespace FB
open PySem L2
variable {pg : Pg} {e : E} {es : Es} {ρ : FEnv} {Q : D → O → FEnv → Prop} {X : Exn → FEnv → Prop} {d : D} {o : O} {ds : List D} {os : List O} {P : Prop}
def wEnv (ρ : FEnv) (P : Prop) (_ : Dm P := ()) : Prop := envL ρ = true ∧ P
def wHl (d : D) (o : O) (P : Prop) (_ : Dm P := ()) : Prop := heldL d o = true ∧ P
def wHls (ds : List D) (os : List O) (P : Prop) (_ : Dm P := ()) : Prop := heldLs ds os = true ∧ P
def wLf (d : D) (o : O) (P : Prop) (_ : Dm P := ()) : Prop := leafK d o = true ∧ P
def wLfs (ds : List D) (os : List O) (P : Prop) (_ : Dm P := ()) : Prop := leafKs ds os = true ∧ P
def wKp (d : D) (P : Prop) (_ : Dm P := ()) : Prop := keptK d = true ∧ P
def wKps (ds : List D) (P : Prop) (_ : Dm P := ()) : Prop := keptKs ds = true ∧ P
theorem wEnv_nil : wEnv [] P = P := by simp [wEnv, envL]
theorem wEnv_no : wEnv (none :: ρ) P = wEnv ρ P := by simp [wEnv, envL]
theorem wEnv_yes : wEnv (some (d, o) :: ρ) P = wHl d o (wEnv ρ P) := by simp [wEnv, wHl, envL, and_assoc]
theorem wHl_sh : wHl d .sh P = P := by cases d <;> simp [wHl, heldL]
theorem wHl_lR : wHl (.lst ds) .root P = P := by simp [wHl, heldL]
theorem wHl_dR {ks : List Key} : wHl (.dic ks ds) .root P = P := by simp [wHl, heldL]
theorem wHl_lN : wHl (.lst ds) (.node os) P = wHls ds os P := by simp [wHl, wHls, heldL]
theorem wHls_nil : wHls [] [] P = P := by simp [wHls, heldLs]
theorem wHls_cons : wHls (d :: ds) (o :: os) P = wHl d o (wHls ds os P) := by simp [wHls, wHl, heldLs, and_assoc]
theorem wLf_sh : wLf d .sh P = wKp d P := by cases d <;> simp [wLf, wKp, leafK]
theorem wLf_lR : wLf (.lst ds) .root P = wKps ds P := by simp [wLf, wKps, leafK]
theorem wLf_tR : wLf (.tup ds) .root P = wKps ds P := by simp [wLf, wKps, leafK]
theorem wLf_dR {ks : List Key} : wLf (.dic ks ds) .root P = wKps ds P := by simp [wLf, wKps, leafK]
theorem wLf_oR {c : Nat} {fs : List Str} : wLf (.obj c fs ds) .root P = wKps ds P := by simp [wLf, wKps, leafK]
theorem wLf_lN : wLf (.lst ds) (.node os) P = wLfs ds os P := by simp [wLf, wLfs, leafK]
theorem wLf_tN : wLf (.tup ds) (.node os) P = wLfs ds os P := by simp [wLf, wLfs, leafK]
theorem wLf_oN {c : Nat} {fs : List Str} : wLf (.obj c fs ds) (.node os) P = wLfs ds os P := by simp [wLf, wLfs, leafK]
theorem wLf_of (h : leafK d o = true) : wLf d o P = P := by simp [wLf, h]
theorem wLfs_nil : wLfs [] [] P = P := by simp [wLfs, leafKs]
theorem wLfs_cons : wLfs (d :: ds) (o :: os) P = wLf d o (wLfs ds os P) := by simp [wLfs, wLf, leafKs, and_assoc]
theorem wKp_non : wKp .non P = P := by simp [wKp, keptK]
theorem wKp_bl {b : Bool} : wKp (.bl b) P = P := by simp [wKp, keptK]
theorem wKp_int {b : Int} : wKp (.int b) P = P := by simp [wKp, keptK]
theorem wKp_str {b : Str} : wKp (.str b) P = P := by simp [wKp, keptK]
theorem wKp_tup : wKp (.tup ds) P = wKps ds P := by simp [wKp, wKps, keptK]
theorem wKp_obj {c : Nat} {fs : List Str} : wKp (.obj c fs ds) P = wKps ds P := by simp [wKp, wKps, keptK]
theorem wKp_of (h : keptK d = true) : wKp d P = P := by simp [wKp, h]
theorem wKps_of (h : keptKs ds = true) : wKps ds P = P := by simp [wKps, h]
theorem wKps_nil : wKps [] P = P := by simp [wKps, keptKs]
theorem wKps_cons : wKps (d :: ds) P = wKp d (wKps ds P) := by simp [wKps, wKp, keptKs, and_assoc]
theorem r_borK : wE (evE pg (.borK e) ρ) Q X = wSh ρ fun ρs => wE (evE pg e ρs) (fun d o _ => wEnv ρ (wLf d o (Q d o ρ))) (fun x _ => X x ρ) := by
  rw [evE]
  simp only [wSh]
  cases evE pg e (sharedEnv ρ) with
  | ok x ρ1 =>
    obtain ⟨d, o⟩ := x
    simp only [wE, wEnv, wLf]
    cases h1 : envL ρ <;> cases h2 : leafK d o <;> simp
  | exc x ρ1 => rfl
  | stuck => rfl
theorem r_shr : wE (evE pg (.shr e) ρ) Q X = wE (evE pg e ρ) (fun d _ ρ1 => Q d .sh ρ1) X := by
  rw [evE]
  cases evE pg e ρ <;> rfl
theorem r_mutL {i : Nat} {mu : Mu} : wE (evE pg (.mutL i mu es) ρ) Q X = wG ρ i fun d0 o0 => wAt (some (d0, o0)) fun d => wB (tyM mu d) (wEs (evEs pg es ρ) (fun xs _ ρ1 => wG ρ1 i fun d1 o1 => wAt (some (d1, o1)) fun d2 => wB (tyM mu d2) (wO2 (muD mu d2 xs) fun z d3 => wS ρ1 i (some (d3, .root)) fun ρ2 => Q z .sh ρ2)) X) := by
  rw [evE]
  unfold mutLF wG
  cases ρ[i]? with
  | none => rfl
  | some z => cases z with
    | none => rfl
    | some z =>
      obtain ⟨d, o⟩ := z
      cases o with
      | root =>
        simp only [wAt]
        cases tyM mu d with
        | true =>
          simp only [if_true, wB_true]
          cases evEs pg es ρ with
          | ok xs ρ1 =>
            simp only [Ev.bind, wEs]
            cases ρ1[i]? with
            | none => rfl
            | some z => cases z with
              | none => rfl
              | some z =>
                obtain ⟨d1, o1⟩ := z
                cases o1 with
                | root =>
                  simp only [wAt]
                  cases tyM mu d1 with
                  | true =>
                    simp only [if_true, wB_true]
                    cases muD mu d1 (xs.map (·.1)) <;> rfl
                  | false => simp [wB, wE]
                | sh => rfl
                | node os => rfl
          | exc x ρ1 => rfl
          | stuck => rfl
        | false => simp [wB, wE]
      | sh => rfl
      | node os => rfl
theorem r_mutT {m : Mu} : wE (evE pg (.mutT m e es) ρ) Q X = wE (evE pg e ρ) (fun d o ρ1 => wAt (some (d, o)) fun d => wB (tyM m d) (wEs (evEs pg es ρ1) (fun xs _ ρ2 => wO2 (muD m d xs) fun z _ => Q z .sh ρ2) X)) X := by
  rw [evE]
  cases evE pg e ρ with
  | ok x ρ1 =>
    obtain ⟨d, o⟩ := x
    cases o with
    | root =>
      show wE (if tyM m d then (evEs pg es ρ1).bind fun xs ρ2 => opt (muD m d (xs.map (·.1))) ρ2 fun r => .ok (r.1, .sh) ρ2 else .stuck) Q X = _
      show _ = wB (tyM m d) (wEs (evEs pg es ρ1) (fun xs _ ρ2 => wO2 (muD m d xs) fun z _ => Q z .sh ρ2) X)
      cases tyM m d with
      | true =>
        rw [if_pos rfl, wB_true]
        cases evEs pg es ρ1 with
        | ok xs ρ2 =>
          show wE (opt (muD m d (xs.map (·.1))) ρ2 fun r => .ok (r.1, .sh) ρ2) Q X = wO2 (muD m d (xs.map (·.1))) fun z _ => Q z .sh ρ2
          cases muD m d (xs.map (·.1)) <;> rfl
        | exc x ρ2 => rfl
        | stuck => rfl
      | false => simp [wB, wE]
    | sh => rfl
    | node os => rfl
  | exc x ρ1 => rfl
  | stuck => rfl
def wLn {α β : Type} (ks : List α) (xs : List β) (P : Prop) (_ : Dm P := ()) : Prop := ks.length = xs.length ∧ P
theorem wLn_nil {α β : Type} : wLn ([] : List α) ([] : List β) P = P := by simp [wLn]
theorem wLn_cons {α β : Type} {k : α} {x : β} {ks : List α} {xs : List β} : wLn (k :: ks) (x :: xs) P = wLn ks xs P := by simp [wLn]
theorem r_dicC {k : Key} {ks : List Key} : wE (evE pg (.dic (k :: ks) es) ρ) Q X = wEs (evEs pg es ρ) (fun xs _ ρ1 => wLn (k :: ks) xs (wGd ((k :: ks).length ≤ 15 ∧ (k :: ks).Nodup) (Q (.dic (k :: ks) xs) .root ρ1))) X := by
  rw [evE]
  cases evEs pg es ρ with
  | ok xs ρ1 =>
    show wE (if (k :: ks).length = xs.length ∧ (k :: ks).length ≤ 15 ∧ (k :: ks).Nodup then .ok (.dic (k :: ks) (xs.map (·.1)), .root) ρ1 else .stuck) Q X = ((k :: ks).length = (xs.map (·.1)).length ∧ (((k :: ks).length ≤ 15 ∧ (k :: ks).Nodup) ∧ Q (.dic (k :: ks) (xs.map (·.1))) .root ρ1))
    rw [List.length_map]
    by_cases h : (k :: ks).length = xs.length ∧ (k :: ks).length ≤ 15 ∧ (k :: ks).Nodup
    · rw [if_pos h]
      simp only [wE]
      exact propext ⟨fun z => ⟨h.1, ⟨h.2.1, h.2.2⟩, z⟩, fun z => z.2.2⟩
    · rw [if_neg h]
      simp only [wE]
      exact (propext ⟨False.elim, fun z => h ⟨z.1, z.2.1.1, z.2.1.2⟩⟩)
  | exc x ρ1 => rfl
  | stuck => rfl
theorem s_forH {js : List Nat} {tp : Bool} {i : Nat} {b : Ss} {N : FEnv → Prop} {R : D → O → FEnv → Prop} {B C : FEnv → Prop} : wF (evS pg (.forH js tp i b) ρ) N R B C X = wG ρ i fun d o => wAt (some (d, o)) fun d => wLst d fun ds => wS ρ i none fun ρ0 => wF (forLoop (forBody js tp (evSs pg b)) ds ρ0) (fun ρ' => wNo ρ' i (wS ρ' i (some (.lst ds, .root)) N)) (fun d o ρ' => wNo ρ' i (wS ρ' i (some (.lst ds, .root)) fun ρ' => R d o ρ')) (fun _ => False) (fun _ => False) (fun x ρ' => wNo ρ' i (wS ρ' i (some (.lst ds, .root)) fun ρ' => X x ρ')) := by
  rw [evS]
  unfold forHF wG wS
  cases ρ[i]? with
  | none => rfl
  | some y => cases y with
    | none => rfl
    | some z =>
      obtain ⟨d, o⟩ := z
      cases o with
      | root =>
        cases d with
        | lst ds =>
          show wF (backH i (.lst ds, .root) (forLoop (forBody js tp (evSs pg b)) ds (ρ.set i none))) N R B C X = wF (forLoop (forBody js tp (evSs pg b)) ds (ρ.set i none)) _ _ _ _ _
          generalize forLoop (forBody js tp (evSs pg b)) ds (ρ.set i none) = fl
          cases fl with
          | nx ρ' =>
            simp only [backH, wF, wNo]
            cases ρ'[i]? with
            | none => rfl
            | some y => cases y <;> rfl
          | rt d o ρ' =>
            simp only [backH, wF, wNo]
            cases ρ'[i]? with
            | none => rfl
            | some y => cases y <;> rfl
          | exc z ρ' =>
            simp only [backH, wF, wNo]
            cases ρ'[i]? with
            | none => rfl
            | some y => cases y <;> rfl
          | br ρ' => rfl
          | ct ρ' => rfl
          | stuck => rfl
        | _ => rfl
      | sh => cases d <;> rfl
      | node os => cases d <;> rfl
theorem ra_lateE {i : Nat} {Q : List DO → FEnv → Prop} : wA (evEs pg (.consL i es) ρ) Q X = wG ρ i fun _ _ => wA (evEs pg es ρ) (fun xs ρ1 => wG ρ1 i fun d o => wS ρ1 i none fun ρ2 => Q ((d, o) :: xs) ρ2) X := by
  rw [evEs]
  unfold wG wS
  cases ρ[i]? with
  | none => rfl
  | some y => cases y with
    | none => rfl
    | some z =>
      simp only
      cases evEs pg es ρ with
      | ok xs ρ1 =>
        show wA (match ρ1[i]? with | some (some x) => .ok (x :: xs) (ρ1.set i none) | _ => .stuck) Q X = match ρ1[i]? with | some (some x) => Q ((x.1, x.2) :: xs) (ρ1.set i none) | _ => False
        cases ρ1[i]? with
        | none => rfl
        | some y => cases y <;> rfl
      | exc x ρ1 => rfl
      | stuck => rfl
theorem qbtI {i : Int} : bmTy .bitlen (.int i) = true := (rfl)
theorem qbmI {i : Int} : bmD .bitlen (.int i) [] = some (.int (Builtin.Int.intBits i : Nat), .sh) := (rfl)
end FB
namespace FB
open PySem L2
/-! the forward rules of what an exception may leave, and of exceptions with fields -/
def wLX (r : Ev (List D)) (P : List D → FEnv → Prop) (X : Exn → FEnv → Prop) (_ : Dm (P, X) := ()) : Prop := match r with
  | .ok ds ρ => P ds ρ
  | .exc x ρ => X x ρ
  | .stuck => False
section
variable {pg : Pg} {e : E} {t : T} {ρ : FEnv} {Q : D → O → FEnv → Prop} {X : Exn → FEnv → Prop} {i j c : Nat} {N B C : FEnv → Prop} {R : D → O → FEnv → Prop}
theorem wLX_ok {ds : List D} {P : List D → FEnv → Prop} : wLX (.ok ds ρ) P X = P ds ρ := (rfl)
theorem wLX_exc {x : Exn} {P : List D → FEnv → Prop} : wLX (.exc x ρ) P X = X x ρ := (rfl)
theorem r_lcX {js : List Nat} {tp : Bool} {it : It} {hc : Bool} : wE (evE pg (.lcX js tp it t hc e) ρ) Q X = wI (evI pg it ρ) (fun ds ρ1 => wGd (ds.length ≤ 1000000) (wWp ρ1 js fun ρ2 => wLX (lcLoopX (lcBody js tp (if hc then some (evT pg t) else none) (evE pg e)) ds ρ2) (fun r ρ5 => Q (.lst r) .root ρ5) fun x ρ5 => wWp ρ5 js fun ρ6 => X x ρ6)) X := by
  rw [evE, wE_bindI]
  refine wI_eq fun ds ρ1 => ?_
  unfold wGd wWp
  by_cases h : ds.length ≤ 1000000
  · rw [if_pos h]
    simp only [h, true_and]
    unfold wLX wE
    cases lcLoopX (lcBody js tp (if hc then some (evT pg t) else none) (evE pg e)) ds (wipeE ρ1 js) <;> rfl
  · rw [if_neg h]
    simp [h, wE]
theorem r_lcX0 {js : List Nat} {tp : Bool} {it : It} : wE (evE pg (.lcX js tp it t false e) ρ) Q X = wI (evI pg it ρ) (fun ds ρ1 => wGd (ds.length ≤ 1000000) (wWp ρ1 js fun ρ2 => wLX (lcLoopX (lcBody js tp none (evE pg e)) ds ρ2) (fun r ρ5 => Q (.lst r) .root ρ5) fun x ρ5 => wWp ρ5 js fun ρ6 => X x ρ6)) X := r_lcX
theorem lx_nil {b : D → FEnv → Ev (Option D)} {P : List D → FEnv → Prop} : wLX (lcLoopX b [] ρ) P X = P [] ρ := (rfl)
theorem lx_cons0 {js : List Nat} {tp : Bool} {ee : FEnv → Ev DO} {d : D} {ds : List D} {P : List D → FEnv → Prop} : wLX (lcLoopX (lcBody js tp none ee) (d :: ds) ρ) P X = wTg js tp d ρ fun ρ2 => wE (ee ρ2) (fun x _ ρ3 => wWp ρ3 js fun ρ4 => wLX (lcLoopX (lcBody js tp none ee) ds ρ4) (fun r ρ5 => P (x :: r) ρ5) X) X := by
  rw [lcLoopX]
  unfold wTg wWp
  have e : lcBody js tp none ee d ρ = match bindTg js tp d ρ with
    | some ρ2 => (ee ρ2).bind fun x ρ4 => .ok (some x.1) (wipeE ρ4 js)
    | none => .stuck := rfl
  rw [e]
  cases bindTg js tp d ρ with
  | none => rfl
  | some ρ2 =>
    simp only
    cases ee ρ2 with
    | ok x ρ3 =>
      simp only [Ev.bind, wE]
      cases lcLoopX (lcBody js tp none ee) ds (wipeE ρ3 js) <;> rfl
    | exc _ _ => rfl
    | stuck => rfl
theorem s_raisF {f : Str} : wF (evS pg (.raisF c f e) ρ) N R B C X = wE (evE pg e ρ) (fun x _ ρ1 => wFlat x (X ⟨c, [f], [x]⟩ ρ1)) X := by
  rw [evS, wF_flE]
  refine wE_eq fun x o ρ1 => ?_
  unfold wFlat
  cases h : x.flat <;> simp [h, wF]
theorem s_asgX2 {x : Exn} {b : XB} : wF (evS (pgX pg x) (.asgX2 i b) ρ) N R B C X = wO (evX pg.sub x.c b) fun b => wS ρ i (some (.bl b, .sh)) N := by
  rw [evS]
  simp only [pgX]
  cases evX pg.sub x.c b <;> rfl
theorem s_asgXF {x : Exn} {k : Const} {f : Str} : wF (evS (pgX pg x) (.asgXF i k f) ρ) N R B C X = wO (constD k) fun d => wO (lookF x.fs x.ds f) fun d2 => wS ρ i (some (.tup [d, d2], .root)) N := by
  rw [evS]
  simp only [pgX]
  cases constD k with
  | none => rfl
  | some d => cases lookF x.fs x.ds f <;> rfl
end
end FB
namespace Law
open PySem L2 PyProof.Rows FB
abbrev nf : Nat := 14
-- CLASS 0 FrameError
-- CLASS 1 Astray
-- CLASS 2 Table
-- GLOB 0 BOXES
-- GLOB 1 MOST
/-- Astray.__init__ -/
def d_0 : FDef := ⟨2, 2, [0], .cons .no .nil⟩
/-- Table.__init__ -/
def d_1 : FDef := ⟨3, 3, [0], .cons (.setf 0 "entries" (.bi .list (.cons (.v 1) (.nil)))) (.cons (.setf 0 "landings" (.dic [] .nil)) (.cons (.ite (.e (.cmp .IsNot (.v 2) (.k .none))) (.cons (.setf 0 "landings" (.bi .dict (.cons (.v 2) (.nil)))) (.nil)) (.nil)) (.nil)))⟩
/-- lying -/
def d_2 : FDef := ⟨6, 7, [], .cons (.ite (.e (.cmp .Lt (.v 0) (.k (.int 1)))) (.cons (.raisF 1 "row" (.v 1)) (.nil)) (.nil)) (.cons (.asg 6 (.bin .Sub (.bm .bitlen (.bin .BitAnd (.v 0) (.un .USub (.v 0))) .nil) (.k (.int 1)))) (.cons (.ite (.e (.cmp .Lt (.v 6) (.g 0))) (.cons (.ite (.e (.cmp .Is (.ix (.v 3) (.v 6)) (.k .none))) (.cons (.raisF 1 "row" (.v 1)) (.nil)) (.nil)) (.cons (.ret (.ix (.v 3) (.v 6))) (.nil))) (.nil)) (.cons (.ite (.e (.cmp .GtE (.bin .Sub (.v 6) (.g 0)) (.ix (.v 2) (.k (.int 0))))) (.cons (.raisF 1 "row" (.v 1)) (.nil)) (.nil)) (.cons (.ret (.ix (.v 4) (.bin .Sub (.bin .Add (.bin .Sub (.v 5) (.ix (.v 2) (.k (.int 0)))) (.v 6)) (.g 0)))) (.nil)))))⟩
def ce_3_0 : E := .call 2 (.cons (.v 8) (.cons (.v 1) (.cons (.v 5) (.cons (.v 2) (.cons (.v 3) (.cons (.v 4) (.nil))))))) [] []
/-- one_up -/
def d_3 : FDef := ⟨5, 9, [], .cons (.ite (.or (.e (.cmp .Lt (.v 1) (.k (.int 0)))) (.e (.cmp .GtE (.v 1) (.bi .len (.cons (.fld (.v 0) "entries") (.nil)))))) (.cons (.raisF 1 "row" (.v 1)) (.nil)) (.nil)) (.cons (.asg 5 (.ix (.fld (.v 0) "entries") (.v 1))) (.cons (.ite (.or (.e (.cmp .Is (.v 5) (.k .none))) (.or (.e (.cmp .Lt (.ix (.v 5) (.k (.int 0))) (.k (.int 0)))) (.e (.cmp .Gt (.ix (.v 5) (.k (.int 0))) (.v 4))))) (.cons (.raisF 1 "row" (.v 1)) (.nil)) (.nil)) (.cons (.asg 6 (.call 2 (.cons (.ix (.v 5) (.k (.int 1))) (.cons (.v 1) (.cons (.v 5) (.cons (.v 2) (.cons (.v 3) (.cons (.v 4) (.nil))))))) [] [])) (.cons (.asg 7 (.lcX [8] false (.e (.ix (.v 5) (.k (.int 2)))) (.e (.k .none)) false ce_3_0)) (.cons (.ret (.tup (.cons (.hold 6) (.cons (.tup (.cons (.ix (.v 7) (.k (.int 0))) (.cons (.ix (.v 7) (.k (.int 1))) (.cons (.ix (.v 7) (.k (.int 2))) (.nil))))) (.cons (.bin .Sub (.v 4) (.ix (.v 5) (.k (.int 0)))) (.nil)))))) (.nil))))))⟩
def bd_4_0 : Ss := .cons (.ite (.bor (.e (.cmp .Eq (.bi .len (.cons (.v 4) (.nil))) (.g 1)))) (.cons (.raisF 1 "row" (.v 1)) (.nil)) (.nil)) (.cons (.unp [1, 6, 5] (.call 3 (.cons (.v 0) (.cons (.v 1) (.cons (.v 2) (.cons (.v 3) (.cons (.v 5) (.nil)))))) [] [])) (.cons (.ex (.mut 4 [] .append (.cons (.tup (.cons (.v 1) (.cons (.v 6) (.cons (.v 5) (.nil))))) (.nil)))) (.cons (.asg 2 (.lst (.cons (.k .none) (.cons (.k .none) (.cons (.k .none) (.cons (.k .none) (.cons (.ix (.v 6) (.k (.int 0))) (.cons (.ix (.v 6) (.k (.int 1))) (.cons (.ix (.v 6) (.k (.int 2))) (.cons (.k .none) (.nil))))))))))) (.nil))))
def wt_4_0 : T := .e (.cmp .NotEq (.v 1) (.bi .len (.cons (.fld (.v 0) "entries") (.nil))))
/-- callers -/
def d_4 : FDef := ⟨4, 7, [], .cons (.asg 4 (.lst (.nil))) (.cons (.asg 5 (.bi .len (.cons (.v 3) (.nil)))) (.cons (.whl wt_4_0 bd_4_0) (.cons (.ret (.hold 4)) (.nil))))⟩
/-- _law_cell_at -/
def d_5 : FDef := ⟨2, 2, [], .cons (.ite (.e (.cmp .Lt (.v 1) (.bi .len (.cons (.v 0) (.nil))))) (.cons (.ret (.ix (.v 0) (.v 1))) (.nil)) (.nil)) (.cons (.ret (.k (.int 0))) (.nil))⟩
/-- _law_cell -/
def d_6 : FDef := ⟨2, 2, [], .cons (.ret (.bin .Mod (.bin .FloorDiv (.v 0) (.k (.int 3))) (.ix (.lst (.cons (.k (.int 4294967296)) (.cons (.bin .Add (.v 1) (.k (.int 1))) (.cons (.bin .Add (.v 1) (.k (.int 1))) (.nil))))) (.bin .Mod (.v 0) (.k (.int 3)))))) (.nil)⟩
/-- _law_set -/
def d_7 : FDef := ⟨2, 2, [], .cons (.ite (.e (.cmp .Eq (.bin .Mod (.v 0) (.k (.int 29))) (.k (.int 3)))) (.cons (.ret (.un .USub (.bin .Mod (.bin .FloorDiv (.v 0) (.k (.int 29))) (.k (.int 3))))) (.nil)) (.nil)) (.cons (.ite (.e (.cmp .Eq (.bin .Mod (.v 0) (.k (.int 3))) (.k (.int 0)))) (.cons (.ret (.bin .LShift (.k (.int 1)) (.bin .Add (.k (.int 8)) (.bin .Mod (.bin .FloorDiv (.v 0) (.k (.int 3))) (.bi .max (.cons (.k (.int 1)) (.cons (.bin .Add (.v 1) (.bi .int (.cons (.cmp .Eq (.bin .Mod (.v 0) (.k (.int 7))) (.k (.int 0))) (.nil)))) (.nil)))))))) (.nil)) (.nil)) (.cons (.ret (.bin .LShift (.k (.int 1)) (.ix (.lst (.cons (.bin .Mod (.bin .FloorDiv (.v 0) (.k (.int 3))) (.k (.int 8))) (.cons (.bin .Add (.k (.int 4)) (.bin .Mod (.bin .FloorDiv (.v 0) (.k (.int 3))) (.k (.int 3)))) (.nil)))) (.bin .Mod (.v 0) (.k (.int 2)))))) (.nil)))⟩
/-- _law_entry -/
def d_8 : FDef := ⟨1, 4, [], .cons (.ite (.e (.cmp .Eq (.bin .Mod (.v 0) (.k (.int 6))) (.k (.int 5)))) (.cons (.ret (.k .none)) (.nil)) (.nil)) (.cons (.asg 1 (.bin .Sub (.bin .Mod (.bin .FloorDiv (.v 0) (.k (.int 6))) (.k (.int 6))) (.bi .int (.cons (.cmp .Eq (.bin .Mod (.bin .FloorDiv (.v 0) (.k (.int 36))) (.k (.int 7))) (.k (.int 0))) (.nil))))) (.cons (.asg 2 (.bin .FloorDiv (.v 0) (.k (.int 5)))) (.cons (.asg 3 (.tup (.cons (.call 7 (.cons (.bin .FloorDiv (.v 2) (.k (.int 11))) (.cons (.v 1) (.nil))) [] []) (.cons (.call 7 (.cons (.bin .FloorDiv (.v 2) (.k (.int 97))) (.cons (.v 1) (.nil))) [] []) (.cons (.call 7 (.cons (.bin .FloorDiv (.v 2) (.k (.int 1009))) (.cons (.v 1) (.nil))) [] []) (.nil)))))) (.cons (.ret (.tup (.cons (.v 1) (.cons (.call 7 (.cons (.v 2) (.cons (.v 1) (.nil))) [] []) (.cons (.hold 3) (.nil)))))) (.nil)))))⟩
/-- _law_value -/
def d_9 : FDef := ⟨5, 6, [], .cons (.ite (.e (.cmp .Lt (.v 0) (.k (.int 1)))) (.cons (.ret (.k .none)) (.nil)) (.nil)) (.cons (.asg 5 (.bin .Sub (.bm .bitlen (.bin .BitAnd (.v 0) (.un .USub (.v 0))) .nil) (.k (.int 1)))) (.cons (.ite (.e (.cmp .Lt (.v 5) (.k (.int 8)))) (.cons (.ret (.ix (.v 2) (.v 5))) (.nil)) (.nil)) (.cons (.ite (.e (.cmp .GtE (.bin .Sub (.v 5) (.k (.int 8))) (.ix (.v 1) (.k (.int 0))))) (.cons (.ret (.k .none)) (.nil)) (.nil)) (.cons (.ret (.ix (.v 3) (.bin .Sub (.bin .Add (.bin .Sub (.v 4) (.ix (.v 1) (.k (.int 0)))) (.v 5)) (.k (.int 8))))) (.nil)))))⟩
def bd_10_0 : Ss := .cons (.ex (.mut 4 [] .append (.cons (.call 9 (.cons (.v 5) (.cons (.v 0) (.cons (.v 1) (.cons (.v 2) (.cons (.v 3) (.nil)))))) [] []) (.nil)))) (.nil)
/-- _law_up -/
def d_10 : FDef := ⟨4, 6, [], .cons (.ite (.or (.e (.cmp .Is (.v 0) (.k .none))) (.or (.e (.cmp .Lt (.ix (.v 0) (.k (.int 0))) (.k (.int 0)))) (.e (.cmp .Gt (.ix (.v 0) (.k (.int 0))) (.v 3))))) (.cons (.ret (.k .none)) (.nil)) (.nil)) (.cons (.asg 4 (.lst (.nil))) (.cons (.for1 [5] false (.e (.lst (.cons (.ix (.v 0) (.k (.int 1))) (.cons (.ix (.ix (.v 0) (.k (.int 2))) (.k (.int 0))) (.cons (.ix (.ix (.v 0) (.k (.int 2))) (.k (.int 1))) (.cons (.ix (.ix (.v 0) (.k (.int 2))) (.k (.int 2))) (.nil))))))) (bd_10_0)) (.cons (.ite (.bor (.e (.cmp .In (.k .none) (.v 4)))) (.cons (.ret (.k .none)) (.nil)) (.nil)) (.cons (.ret (.tup (.cons (.ix (.v 4) (.k (.int 0))) (.cons (.tup (.cons (.ix (.v 4) (.k (.int 1))) (.cons (.ix (.v 4) (.k (.int 2))) (.cons (.ix (.v 4) (.k (.int 3))) (.nil))))) (.cons (.bin .Sub (.v 3) (.ix (.v 0) (.k (.int 0)))) (.nil)))))) (.nil)))))⟩
def bd_11_0 : Ss := .cons (.asg 6 (.k .none)) (.cons (.ite (.bor (.and (.e (.chain .LtE .Lt (.k (.int 0)) (.v 1) (.bi .len (.cons (.v 0) (.nil))))) (.e (.cmp .Lt (.bi .len (.cons (.v 4) (.nil))) (.k (.int 5000)))))) (.cons (.asg 6 (.call 10 (.cons (.ix (.v 0) (.v 1)) (.cons (.v 2) (.cons (.v 3) (.cons (.v 5) (.nil))))) [] [])) (.nil)) (.nil)) (.cons (.ite (.e (.cmp .Is (.v 6) (.k .none))) (.cons (.ret (.tup (.cons (.k (.str "astray")) (.cons (.hold 1) (.nil))))) (.nil)) (.nil)) (.cons (.ex (.mut 4 [] .append (.cons (.v 6) (.nil)))) (.cons (.unp [1, 7, 5] (.v 6)) (.cons (.asg 2 (.lst (.cons (.k .none) (.cons (.k .none) (.cons (.k .none) (.cons (.k .none) (.cons (.ix (.v 7) (.k (.int 0))) (.cons (.ix (.v 7) (.k (.int 1))) (.cons (.ix (.v 7) (.k (.int 2))) (.cons (.k .none) (.nil))))))))))) (.nil))))))
def wt_11_0 : T := .e (.cmp .NotEq (.v 1) (.bi .len (.cons (.v 0) (.nil))))
/-- _law_due -/
def d_11 : FDef := ⟨4, 8, [], .cons (.asg 4 (.lst (.nil))) (.cons (.asg 5 (.bi .len (.cons (.v 3) (.nil)))) (.cons (.whl wt_11_0 bd_11_0) (.cons (.ret (.tup (.cons (.k (.str "callers")) (.cons (.hold 4) (.nil))))) (.nil))))⟩
/-- _law_told -/
def d_12 : FDef := ⟨4, 7, [], .cons (.asg 4 (.k .none)) (.cons (.asg 5 (.k (.bool true))) (.cons (.tryc (.cons (.asg 4 (.tup (.cons (.k (.str "callers")) (.cons (.call 4 (.cons (.v 0) (.cons (.v 1) (.cons (.v 2) (.cons (.v 3) (.nil))))) [] []) (.nil))))) (.nil)) (.cons 1 (some 6) (.cons (.asgXF 4 (.str "astray") "row") (.cons (.asgX2 5 (.and (.is 0) (.is 1000))) (.nil))) .nil)) (.cons (.ite (.not (.e (.v 5))) (.cons (.ret (.tup (.cons (.k (.str "bad")) (.cons (.k (.int 0)) (.nil))))) (.nil)) (.nil)) (.cons (.ret (.hold 4)) (.nil)))))⟩
def st_13_0 : S := .asg 1 (.bin .Add (.k (.int 1)) (.bin .Mod (.call 5 (.cons (.v 0) (.cons (.k (.int 0)) (.nil))) [] []) (.k (.int 5))))
def ce_13_0 : E := .call 8 (.cons (.call 5 (.cons (.v 0) (.cons (.bin .Add (.k (.int 14)) (.v 10)) (.nil))) [] []) (.nil)) [] []
def st_13_1 : S := .asg 2 (.lc [10] false (.rng1 (.v 1)) (.e (.k .none)) false ce_13_0)
def st_13_2 : S := .asg 3 (.bin .Mod (.call 5 (.cons (.v 0) (.cons (.k (.int 1)) (.nil))) [] []) (.v 1))
def st_13_3 : S := .asg 3 (.bin .Sub (.bin .Mod (.bin .FloorDiv (.call 5 (.cons (.v 0) (.cons (.k (.int 1)) (.nil))) [] []) (.k (.int 30))) (.bin .Add (.v 1) (.k (.int 5)))) (.k (.int 2)))
def st_13_4 : S := .ite (.e (.cmp .Eq (.bin .Mod (.bin .FloorDiv (.call 5 (.cons (.v 0) (.cons (.k (.int 1)) (.nil))) [] []) (.k (.int 5))) (.k (.int 6))) (.k (.int 0)))) (.cons (st_13_3) (.nil)) (.nil)
def ce_13_1 : E := .call 6 (.cons (.call 5 (.cons (.v 0) (.cons (.bin .Add (.k (.int 2)) (.v 10)) (.nil))) [] []) (.cons (.v 1) (.nil))) [] []
def st_13_5 : S := .asg 4 (.lc [10] false (.rng1 (.k (.int 8))) (.e (.k .none)) false ce_13_1)
def st_13_6 : S := .asg 5 (.lst (.nil))
def st_13_7 : S := .ex (.mut 5 [] .append (.cons (.call 6 (.cons (.v 6) (.cons (.v 1) (.nil))) [] []) (.nil)))
def bd_13_0 : Ss := .cons (st_13_7) (.nil)
def st_13_8 : S := .for1 [6] false (.e (.sl (.v 0) true (.k (.int 20)) true (.bin .Add (.k (.int 20)) (.bin .Mod (.call 5 (.cons (.v 0) (.cons (.k (.int 10)) (.nil))) [] []) (.k (.int 10)))))) (bd_13_0)
def st_13_9 : S := .asg 7 (.lst (.cons (.bi .list (.cons (.v 4) (.nil))) (.cons (.bi .list (.cons (.v 5) (.nil))) (.nil))))
def st_13_10 : S := .asg 8 (.call 11 (.cons (.v 2) (.cons (.v 3) (.cons (.v 4) (.cons (.v 5) (.nil))))) [] [])
def st_13_11 : S := .asg 9 (.call 12 (.cons (.mk 2 (.cons (.v 2) (.nil)) [.none]) (.cons (.v 3) (.cons (.ix (.v 7) (.k (.int 0))) (.cons (.ix (.v 7) (.k (.int 1))) (.nil))))) [] [])
def st_13_12 : S := .ret (.k (.bool false))
def st_13_13 : S := .ite (.bor (.e (.cmp .NotEq (.v 7) (.lst (.cons (.v 4) (.cons (.v 5) (.nil))))))) (.cons (st_13_12) (.nil)) (.nil)
def st_13_14 : S := .ret (.cmp .Eq (.v 9) (.v 8))
/-- law -/
def d_13 : FDef := ⟨1, 11, [], .cons (st_13_0) (.cons (st_13_1) (.cons (st_13_2) (.cons (st_13_4) (.cons (st_13_5) (.cons (st_13_6) (.cons (st_13_8) (.cons (st_13_9) (.cons (st_13_10) (.cons (st_13_11) (.cons (st_13_13) (.cons (st_13_14) (.nil))))))))))))⟩
def defsT : Nat → FDef
  | 0 => d_0
  | 1 => d_1
  | 2 => d_2
  | 3 => d_3
  | 4 => d_4
  | 5 => d_5
  | 6 => d_6
  | 7 => d_7
  | 8 => d_8
  | 9 => d_9
  | 10 => d_10
  | 11 => d_11
  | 12 => d_12
  | 13 => d_13
  | _ => ⟨0, 0, [], .cons .no .nil⟩
def iniT : Nat → Nat
  | 2 => 1
  | _ => 14
def mthT (c : Nat) (m : Str) : Option Nat := none
def attL : List (Nat × Str) := [(2, "entries"), (2, "landings")]
def attT (c : Nat) (f : Str) : Bool := attL.contains (c, f)
def iskT (k : Kd) : Ty → Option Bool
  | _ => none
def glT : Nat → D
  | 0 => .int 8
  | 1 => .int 5000
  | _ => .non
def tbT : Nat → List (Str × Int)
  | _ => []
def subT : Nat → Nat → Option Bool
  | 1, 0 => some true
  | 1, 1 => some true
  | 1, 1000 => some true
  | _, _ => none
def dfsT : Nat → List (List Const)
  | 1 => [[.none]]
  | _ => []
def tab : Tab := ⟨defsT, iniT, mthT, attT, subT, iskT, glT, 1000000, tbT, dfsT⟩
structure Txt (w : World) (K : PySem.W.Frag) (mg : Str → Option Value) (cl A : Nat → Addr) : Prop where
  f_0 : FunF K "__init__" "Astray.__init__" (inClass (top 2) 0) (A 0) ["self", "row"]
  f_1 : FunF K "__init__" "Table.__init__" (inClass (top 5) 0) (A 1) ["self", "entries", "landings"] [[.none]]
  f_2 : FunF K "lying" "lying" (top 8) (A 2) ["places", "row", "entry", "boxes", "pile", "length"]
  f_3 : FunF K "one_up" "one_up" (top 9) (A 3) ["table", "row", "boxes", "pile", "length"]
  f_4 : FunF K "callers" "callers" (top 10) (A 4) ["table", "row", "boxes", "pile"]
  f_5 : FunF K "_law_cell_at" "_law_cell_at" (top 12) (A 5) ["_law_script", "_law_k"]
  f_6 : FunF K "_law_cell" "_law_cell" (top 13) (A 6) ["_law_cell_here", "_law_many"]
  f_7 : FunF K "_law_set" "_law_set" (top 14) (A 7) ["_law_cell_here", "_law_height"]
  f_8 : FunF K "_law_entry" "_law_entry" (top 15) (A 8) ["_law_cell_here"]
  f_9 : FunF K "_law_value" "_law_value" (top 16) (A 9) ["_law_places", "_law_entry_here", "_law_boxes", "_law_pile", "_law_length"]
  f_10 : FunF K "_law_up" "_law_up" (top 17) (A 10) ["_law_entry_here", "_law_boxes", "_law_pile", "_law_length"]
  f_11 : FunF K "_law_due" "_law_due" (top 18) (A 11) ["_law_entries", "_law_row", "_law_boxes", "_law_pile"]
  f_12 : FunF K "_law_told" "_law_told" (top 19) (A 12) ["_law_table", "_law_row", "_law_boxes", "_law_pile"]
  f_13 : FunF K "law" "law" (top 20) (A 13) ["_law_script"]
  m__law_cell : mg "_law_cell" = some (.ref (A 6))
  m__law_cell_at : mg "_law_cell_at" = some (.ref (A 5))
  m__law_due : mg "_law_due" = some (.ref (A 11))
  m__law_entry : mg "_law_entry" = some (.ref (A 8))
  m__law_set : mg "_law_set" = some (.ref (A 7))
  m__law_told : mg "_law_told" = some (.ref (A 12))
  m__law_up : mg "_law_up" = some (.ref (A 10))
  m__law_value : mg "_law_value" = some (.ref (A 9))
  m_callers : mg "callers" = some (.ref (A 4))
  m_lying : mg "lying" = some (.ref (A 2))
  m_one_up : mg "one_up" = some (.ref (A 3))
  c_0 : mg "FrameError" = some (.ref (cl 0))
  c_1 : mg "Astray" = some (.ref (cl 1))
  c_2 : mg "Table" = some (.ref (cl 2))
  mk_2 : Mk K (cl 2) (A 1)
  k_2 : Cls K (cl 2)
  a_2_entries : NoAttr K (cl 2) "entries"
  a_2_landings : NoAttr K (cl 2) "landings"
  n_ValueError : mg "ValueError" = none
  n_dict : mg "dict" = none
  n_int : mg "int" = none
  n_isinstance : mg "isinstance" = none
  n_len : mg "len" = none
  n_list : mg "list" = none
  n_max : mg "max" = none
  n_range : mg "range" = none
  g_BOXES : GInt mg "BOXES" 8
  g_MOST : GInt mg "MOST" 5000
  bi_0 : BInit K (cl 0)
  xf_1 : XfC K (cl 1)
  xt_1 : OexC K (cl 1)
  xn_1 : PySem.W.findIn K (.ref (cl 1)) "row" = some none
  xi_1 : PySem.W.findIn K (.ref (cl 1)) "__init__" = some (some (.ref (A 0)))
  xj_1 : PySem.W.typeIn K (.ref (A 0)) = some (.type "function")
  ec_1 : ExcC K (cl 1)
  em_1_1 : PySem.W.exmOne K (.ref (cl 1)) (.ref (cl 1)) = some true
  is_1_0 : PySem.W.kitOne K (.ref (cl 1)) (.ref (cl 0)) = some true
  is_1_1000 : PySem.W.kitOne K (.ref (cl 1)) (.type "ValueError") = some true
section
variable {P : Program} {w : World} {K : PySem.W.Frag} {mg : Str → Option Value} {base : Heap} {cl A : Nat → Addr}
theorem exm_1 (T : Txt w K mg cl A) : ExmOk K cl subT 1 := fun c b h => by
  match c, h with
  | 1, h => cases h; exact T.em_1_1
theorem isx_0 (T : Txt w K mg cl A) : IsxOk K cl subT 0 (.ref (cl 0)) (.ref (cl 0)) := ⟨fun z e => e, fun c b h => by
  match c, h with
  | 1, h => cases h; exact ⟨T.ec_1, T.is_1_0⟩⟩
theorem isx_1000 (T : Txt w K mg cl A) : IsxOk K cl subT 1000 (.ty "ValueError") (.type "ValueError") := ⟨fun z e => e, fun c b h => by
  match c, h with
  | 1, h => cases h; exact ⟨T.ec_1, T.is_1_1000⟩⟩
theorem xfok_1_row (T : Txt w K mg cl A) : XfOk K cl subT 1 "row" := fun c h => by
  match c, h with
  | 1, _ => exact ⟨T.xf_1, T.xn_1⟩
theorem sc_0 : FnScope ["self", "row"] ["self", "row"] (defScope (inClass (top 2) 0)) := C8.fnScope_by (by decide +kernel)
theorem xo_1 (T : Txt w K mg cl A) : ExoC P w K mg base (cl 1) "row" := by
  obtain ⟨fd, F, b⟩ := T.f_0.ex
  exact ⟨T.xt_1, A 0, fd, _, T.xi_1, T.xj_1, b.1, init_ok F sc_0 rfl rfl T.xt_1 T.xn_1 fun cdv Aa outer s H E => pss_init (C := cl 0) T.c_0 T.bi_0 rfl rfl (by first | exact Or.inl rfl | exact Or.inr (Or.inl rfl) | exact Or.inr (Or.inr rfl)) (by first | exact Or.inl rfl | exact Or.inr (Or.inl rfl) | exact Or.inr (Or.inr rfl)) rfl rfl rfl rfl rfl (by decide) rfl rfl rfl rfl rfl rfl⟩
theorem attOkT (T : Txt w K mg cl A) : AttOk K cl attT := fun c f h => by
  have h : (c, f) ∈ attL := by simpa [attT] using h
  simp only [attL, List.mem_cons, List.not_mem_nil, or_false, Prod.mk.injEq] at h
  rcases h with ⟨rfl, rfl⟩ | ⟨rfl, rfl⟩
  · exact ⟨T.k_2, T.a_2_entries⟩
  · exact ⟨T.k_2, T.a_2_landings⟩
/-- Astray.__init__ -/
theorem bk_0 {n : Nat} {fd : FuncData} (T : Txt w K mg cl A) (hM : ∀ i, i < nf → JJ P w K mg base cl A tab n i) (hF : ∀ i, i < nf → JJ P w K mg base cl A tab (n + 1) i) (F : FunZ K "__init__" "Astray.__init__" (inClass (top 2) 0) (A 0) fd) : FnR P w K mg base (L2.CX P w) (n + 2) (A 0) fd ["self", "row"] (spF K cl 2 [0] (tab.fnAt (n + 2) 0)) := by
  have attOk := attOkT T
  refine def_ok (df := d_0) F sc_0 rfl rfl (by decide) (by decide) fun cdv Aa outer s H E hr tk hp => ?_
  have B : Bd (cxOf (L2.CX P w) P w K mg base ["self", "row"] "Astray.__init__" (defScope (inClass (top 2) 0)) (A 0) cdv Aa outer s H E) (fun cls d _ H => E cls d H) (n + 1) := ⟨hr, rfl, tk⟩
  show QSs _ cl _ [0] (tab.at n) _ _
  exact rss_no
theorem b_0 {n : Nat} (T : Txt w K mg cl A) (hM : ∀ i, i < nf → JJ P w K mg base cl A tab n i) (hF : ∀ i, i < nf → JJ P w K mg base cl A tab (n + 1) i) : JJ P w K mg base cl A tab (n + 2) 0 := let ⟨fd, F, b⟩ := T.f_0.ex; fnj_of b (by decide) (bk_0 T hM hF F)
/-- Table.__init__ -/
theorem sc_1 : FnScope ["self", "entries", "landings"] ["self", "entries", "landings"] (defScope (inClass (top 5) 0)) := C8.fnScope_by (by decide +kernel)
theorem bk_1 {n : Nat} {fd : FuncData} (T : Txt w K mg cl A) (hM : ∀ i, i < nf → JJ P w K mg base cl A tab n i) (hF : ∀ i, i < nf → JJ P w K mg base cl A tab (n + 1) i) (F : FunZ K "__init__" "Table.__init__" (inClass (top 5) 0) (A 1) fd) : FnR P w K mg base (L2.CX P w) (n + 2) (A 1) fd ["self", "entries", "landings"] (spF K cl 3 [0] (tab.fnAt (n + 2) 1)) := by
  have attOk := attOkT T
  refine def_ok (df := d_1) F sc_1 rfl rfl (by decide) (by decide) fun cdv Aa outer s H E hr tk hp => ?_
  have B : Bd (cxOf (L2.CX P w) P w K mg base ["self", "entries", "landings"] "Table.__init__" (defScope (inClass (top 5) 0)) (A 1) cdv Aa outer s H E) (fun cls d _ H => E cls d H) (n + 1) := ⟨hr, rfl, tk⟩
  show QSs _ cl _ [0] (tab.at n) _ _
  exact rs_cons (rs_setf 0 attOk (re_biT .list (bi_list) T.n_list (ra_cons (re_v 1) (ra_nil)))) (rs_cons (rs_setf 0 attOk (re_dic0)) (rs_cons (rs_ite (rt_cmp B (re_v 2) (re_k)) (rs_cons (rs_setf 0 attOk (re_biT .dict (bi_dict) T.n_dict (ra_cons (re_v 2) (ra_nil)))) (rs_nil)) (rs_nil)) (rs_nil)))
theorem b_1 {n : Nat} (T : Txt w K mg cl A) (hM : ∀ i, i < nf → JJ P w K mg base cl A tab n i) (hF : ∀ i, i < nf → JJ P w K mg base cl A tab (n + 1) i) : JJ P w K mg base cl A tab (n + 2) 1 := let ⟨fd, F, b⟩ := T.f_1.ex; fnj_of b (by decide) (bk_1 T hM hF F)
/-- lying -/
theorem sc_2 : FnScope ["places", "row", "entry", "boxes", "pile", "length", "low"] ["places", "row", "entry", "boxes", "pile", "length"] (defScope (top 8)) := C8.fnScope_by (by decide +kernel)
theorem bk_2 {n : Nat} {fd : FuncData} (T : Txt w K mg cl A) (hM : ∀ i, i < nf → JJ P w K mg base cl A tab n i) (hF : ∀ i, i < nf → JJ P w K mg base cl A tab (n + 1) i) (F : FunZ K "lying" "lying" (top 8) (A 2) fd) : FnR P w K mg base (L2.CX P w) (n + 2) (A 2) fd ["places", "row", "entry", "boxes", "pile", "length"] (spF K cl 6 [] (tab.fnAt (n + 2) 2)) := by
  have attOk := attOkT T
  refine def_ok (df := d_2) F sc_2 rfl rfl (by decide) (by decide) fun cdv Aa outer s H E hr tk hp => ?_
  have B : Bd (cxOf (L2.CX P w) P w K mg base ["places", "row", "entry", "boxes", "pile", "length", "low"] "lying" (defScope (top 8)) (A 2) cdv Aa outer s H E) (fun cls d _ H => E cls d H) (n + 1) := ⟨hr, rfl, tk⟩
  show QSs _ cl _ [] (tab.at n) _ _
  exact rs_cons (rs_ite (rt_cmp B (re_v 0) (re_k)) (rs_cons (rs_raiseF 1 "row" B (xo_1 T) T.c_1 (re_v 1)) (rs_nil)) (rs_nil)) (rs_cons (rs_asg 6 sc_2.nd (re_bin (re_bits (re_bin (re_v 0) (re_un (re_v 0)))) (re_k))) (rs_cons (rs_ite (rt_cmp B (re_v 6) (re_gi 0 T.g_BOXES)) (rs_cons (rs_ite (rt_cmp B (re_ix B (re_v 3) (re_v 6)) (re_k)) (rs_cons (rs_raiseF 1 "row" B (xo_1 T) T.c_1 (re_v 1)) (rs_nil)) (rs_nil)) (rs_cons (rs_ret (re_ix B (re_v 3) (re_v 6))) (rs_nil))) (rs_nil)) (rs_cons (rs_ite (rt_cmp B (re_bin (re_v 6) (re_gi 0 T.g_BOXES)) (re_ix B (re_v 2) (re_k))) (rs_cons (rs_raiseF 1 "row" B (xo_1 T) T.c_1 (re_v 1)) (rs_nil)) (rs_nil)) (rs_cons (rs_ret (re_ix B (re_v 4) (re_bin (re_bin (re_bin (re_v 5) (re_ix B (re_v 2) (re_k))) (re_v 6)) (re_gi 0 T.g_BOXES)))) (rs_nil)))))
theorem b_2 {n : Nat} (T : Txt w K mg cl A) (hM : ∀ i, i < nf → JJ P w K mg base cl A tab n i) (hF : ∀ i, i < nf → JJ P w K mg base cl A tab (n + 1) i) : JJ P w K mg base cl A tab (n + 2) 2 := let ⟨fd, F, b⟩ := T.f_2.ex; fnj_of b (by decide) (bk_2 T hM hF F)
/-- one_up -/
theorem sc_3 : FnScope ["table", "row", "boxes", "pile", "length", "entry", "back", "kept", "places"] ["table", "row", "boxes", "pile", "length"] (defScope (top 9)) := C8.fnScope_by (by decide +kernel)
theorem bk_3 {n : Nat} {fd : FuncData} (T : Txt w K mg cl A) (hM : ∀ i, i < nf → JJ P w K mg base cl A tab n i) (hF : ∀ i, i < nf → JJ P w K mg base cl A tab (n + 1) i) (F : FunZ K "one_up" "one_up" (top 9) (A 3) fd) : FnR P w K mg base (L2.CX P w) (n + 2) (A 3) fd ["table", "row", "boxes", "pile", "length"] (spF K cl 5 [] (tab.fnAt (n + 2) 3)) := by
  have attOk := attOkT T
  refine def_ok (df := d_3) F sc_3 rfl rfl (by decide) (by decide) fun cdv Aa outer s H E hr tk hp => ?_
  have B : Bd (cxOf (L2.CX P w) P w K mg base ["table", "row", "boxes", "pile", "length", "entry", "back", "kept", "places"] "one_up" (defScope (top 9)) (A 3) cdv Aa outer s H E) (fun cls d _ H => E cls d H) (n + 1) := ⟨hr, rfl, tk⟩
  show QSs _ cl _ [] (tab.at n) _ _
  exact rs_cons (rs_ite (rt_w (rw_or (rt_cmp B (re_v 1) (re_k)) (rw_or1 (rt_cmp B (re_v 1) (re_biB .len (bi_len) T.n_len (ra_cons (re_fld attOk (re_v 0)) (ra_nil))))))) (rs_cons (rs_raiseF 1 "row" B (xo_1 T) T.c_1 (re_v 1)) (rs_nil)) (rs_nil)) (rs_cons (rs_asg 5 sc_3.nd (re_ix B (re_fld attOk (re_v 0)) (re_v 1))) (rs_cons (rs_ite (rt_w (rw_or (rt_cmp B (re_v 5) (re_k)) (rw_or (rt_cmp B (re_ix B (re_v 5) (re_k)) (re_k)) (rw_or1 (rt_cmp B (re_ix B (re_v 5) (re_k)) (re_v 4)))))) (rs_cons (rs_raiseF 1 "row" B (xo_1 T) T.c_1 (re_v 1)) (rs_nil)) (rs_nil)) (rs_cons (rs_asg 6 sc_3.nd (re_call 2 [] B (hF 2 (by decide)) T.m_lying T.f_2.kp (ra_cons (re_ix B (re_v 5) (re_k)) (ra_cons (re_v 1) (ra_cons (re_v 5) (ra_cons (re_v 2) (ra_cons (re_v 3) (ra_cons (re_v 4) (ra_nil))))))))) (rs_cons (rs_asgLcX 7 [("places", 8)] rfl rfl sc_3.nd B (ri_e (re_ix B (re_v 5) (re_k))) (by show blkC ["table", "row", "boxes", "pile", "length", "entry", "back", "kept", "places"] (defScope (top 9)) _ [("places", 8)] = true; decide +kernel) (tgr_name 8) (fun s H C cl' fp W' => pg_name (i := 8) sc_3.nd rfl (Or.inl rfl) (Or.inr rfl)) (fun s H C cl' fp W' => rlX_no) (fun s H C cl' fp W' => re_call 2 [] B.blkX (hF 2 (by decide)) T.m_lying T.f_2.kp (ra_cons (re_v 8) (ra_cons (re_v 1) (ra_cons (re_v 5) (ra_cons (re_v 2) (ra_cons (re_v 3) (ra_cons (re_v 4) (ra_nil)))))))) rfl) (rs_cons (rs_ret (re_tup (ra_hold 6 (ra_cons (re_tup (ra_cons (re_ix B (re_v 7) (re_k)) (ra_cons (re_ix B (re_v 7) (re_k)) (ra_cons (re_ix B (re_v 7) (re_k)) (ra_nil))))) (ra_cons (re_bin (re_v 4) (re_ix B (re_v 5) (re_k))) (ra_nil)))))) (rs_nil))))))
theorem b_3 {n : Nat} (T : Txt w K mg cl A) (hM : ∀ i, i < nf → JJ P w K mg base cl A tab n i) (hF : ∀ i, i < nf → JJ P w K mg base cl A tab (n + 1) i) : JJ P w K mg base cl A tab (n + 2) 3 := let ⟨fd, F, b⟩ := T.f_3.ex; fnj_of b (by decide) (bk_3 T hM hF F)
/-- callers -/
theorem sc_4 : FnScope ["table", "row", "boxes", "pile", "found", "length", "kept"] ["table", "row", "boxes", "pile"] (defScope (top 10)) := C8.fnScope_by (by decide +kernel)
theorem bk_4 {n : Nat} {fd : FuncData} (T : Txt w K mg cl A) (hM : ∀ i, i < nf → JJ P w K mg base cl A tab n i) (hF : ∀ i, i < nf → JJ P w K mg base cl A tab (n + 1) i) (F : FunZ K "callers" "callers" (top 10) (A 4) fd) : FnR P w K mg base (L2.CX P w) (n + 2) (A 4) fd ["table", "row", "boxes", "pile"] (spF K cl 4 [] (tab.fnAt (n + 2) 4)) := by
  have attOk := attOkT T
  refine def_ok (df := d_4) F sc_4 rfl rfl (by decide) (by decide) fun cdv Aa outer s H E hr tk hp => ?_
  have B : Bd (cxOf (L2.CX P w) P w K mg base ["table", "row", "boxes", "pile", "found", "length", "kept"] "callers" (defScope (top 10)) (A 4) cdv Aa outer s H E) (fun cls d _ H => E cls d H) (n + 1) := ⟨hr, rfl, tk⟩
  show QSs _ cl _ [] (tab.at n) _ _
  exact rs_cons (rs_asg 4 sc_4.nd (re_lst (ra_nil))) (rs_cons (rs_asg 5 sc_4.nd (re_biB .len (bi_len) T.n_len (ra_cons (re_v 3) (ra_nil)))) (rs_cons (rs_whl hp (rt_cmp B (re_v 1) (re_biB .len (bi_len) T.n_len (ra_cons (re_fld attOk (re_v 0)) (ra_nil)))) (rs_cons (rs_ite (rt_bor (rt_cmp B (re_biB .len (bi_len) T.n_len (ra_cons (re_v 4) (ra_nil))) (re_gi 1 T.g_MOST))) (rs_cons (rs_raiseF 1 "row" B (xo_1 T) T.c_1 (re_v 1)) (rs_nil)) (rs_nil)) (rs_cons (rs_unp (js := [1, 6, 5]) B (re_call 3 [] B (hF 3 (by decide)) T.m_one_up T.f_3.kp (ra_cons (re_v 0) (ra_cons (re_v 1) (ra_cons (re_v 2) (ra_cons (re_v 3) (ra_cons (re_v 5) (ra_nil))))))) (tg_tup (js := [1, 6, 5]) (n := 3) B.hc rfl (pgs_cons (pg_name (i := 1) sc_4.nd rfl (by first | exact Or.inl rfl | exact Or.inr rfl) (by first | exact Or.inl rfl | exact Or.inr rfl)) (pgs_cons (pg_name (i := 6) sc_4.nd rfl (by first | exact Or.inl rfl | exact Or.inr rfl) (by first | exact Or.inl rfl | exact Or.inr rfl)) (pgs_cons (pg_name (i := 5) sc_4.nd rfl (by first | exact Or.inl rfl | exact Or.inr rfl) (by first | exact Or.inl rfl | exact Or.inr rfl)) (pgs_nil)))) rfl rfl) (by decide)) (rs_cons (rs_ex (re_mut PySem.F.plainAttrs_list PySem.F.slot_list_append PySem.F.type_list_append mt_append (.inl ⟨rfl, by decide⟩) mt_app (rp_name _ 4) (ra_cons (re_tup (ra_cons (re_v 1) (ra_cons (re_v 6) (ra_cons (re_v 5) (ra_nil))))) (ra_nil)))) (rs_cons (rs_asg 2 sc_4.nd (re_lst (ra_cons (re_k) (ra_cons (re_k) (ra_cons (re_k) (ra_cons (re_k) (ra_cons (re_ix B (re_v 6) (re_k)) (ra_cons (re_ix B (re_v 6) (re_k)) (ra_cons (re_ix B (re_v 6) (re_k)) (ra_cons (re_k) (ra_nil))))))))))) (rs_nil)))))) (rs_cons (rs_ret (re_hold 4)) (rs_nil))))
theorem b_4 {n : Nat} (T : Txt w K mg cl A) (hM : ∀ i, i < nf → JJ P w K mg base cl A tab n i) (hF : ∀ i, i < nf → JJ P w K mg base cl A tab (n + 1) i) : JJ P w K mg base cl A tab (n + 2) 4 := let ⟨fd, F, b⟩ := T.f_4.ex; fnj_of b (by decide) (bk_4 T hM hF F)
/-- _law_cell_at -/
theorem sc_5 : FnScope ["_law_script", "_law_k"] ["_law_script", "_law_k"] (defScope (top 12)) := C8.fnScope_by (by decide +kernel)
theorem bk_5 {n : Nat} {fd : FuncData} (T : Txt w K mg cl A) (hM : ∀ i, i < nf → JJ P w K mg base cl A tab n i) (hF : ∀ i, i < nf → JJ P w K mg base cl A tab (n + 1) i) (F : FunZ K "_law_cell_at" "_law_cell_at" (top 12) (A 5) fd) : FnR P w K mg base (L2.CX P w) (n + 2) (A 5) fd ["_law_script", "_law_k"] (spF K cl 2 [] (tab.fnAt (n + 2) 5)) := by
  have attOk := attOkT T
  refine def_ok (df := d_5) F sc_5 rfl rfl (by decide) (by decide) fun cdv Aa outer s H E hr tk hp => ?_
  have B : Bd (cxOf (L2.CX P w) P w K mg base ["_law_script", "_law_k"] "_law_cell_at" (defScope (top 12)) (A 5) cdv Aa outer s H E) (fun cls d _ H => E cls d H) (n + 1) := ⟨hr, rfl, tk⟩
  show QSs _ cl _ [] (tab.at n) _ _
  exact rs_cons (rs_ite (rt_cmp B (re_v 1) (re_biB .len (bi_len) T.n_len (ra_cons (re_v 0) (ra_nil)))) (rs_cons (rs_ret (re_ix B (re_v 0) (re_v 1))) (rs_nil)) (rs_nil)) (rs_cons (rs_ret (re_k)) (rs_nil))
theorem b_5 {n : Nat} (T : Txt w K mg cl A) (hM : ∀ i, i < nf → JJ P w K mg base cl A tab n i) (hF : ∀ i, i < nf → JJ P w K mg base cl A tab (n + 1) i) : JJ P w K mg base cl A tab (n + 2) 5 := let ⟨fd, F, b⟩ := T.f_5.ex; fnj_of b (by decide) (bk_5 T hM hF F)
/-- _law_cell -/
theorem sc_6 : FnScope ["_law_cell_here", "_law_many"] ["_law_cell_here", "_law_many"] (defScope (top 13)) := C8.fnScope_by (by decide +kernel)
theorem bk_6 {n : Nat} {fd : FuncData} (T : Txt w K mg cl A) (hM : ∀ i, i < nf → JJ P w K mg base cl A tab n i) (hF : ∀ i, i < nf → JJ P w K mg base cl A tab (n + 1) i) (F : FunZ K "_law_cell" "_law_cell" (top 13) (A 6) fd) : FnR P w K mg base (L2.CX P w) (n + 2) (A 6) fd ["_law_cell_here", "_law_many"] (spF K cl 2 [] (tab.fnAt (n + 2) 6)) := by
  have attOk := attOkT T
  refine def_ok (df := d_6) F sc_6 rfl rfl (by decide) (by decide) fun cdv Aa outer s H E hr tk hp => ?_
  have B : Bd (cxOf (L2.CX P w) P w K mg base ["_law_cell_here", "_law_many"] "_law_cell" (defScope (top 13)) (A 6) cdv Aa outer s H E) (fun cls d _ H => E cls d H) (n + 1) := ⟨hr, rfl, tk⟩
  show QSs _ cl _ [] (tab.at n) _ _
  exact rs_cons (rs_ret (re_bin (re_bin (re_v 0) (re_k)) (re_ix B (re_lst (ra_cons (re_k) (ra_cons (re_bin (re_v 1) (re_k)) (ra_cons (re_bin (re_v 1) (re_k)) (ra_nil))))) (re_bin (re_v 0) (re_k))))) (rs_nil)
theorem b_6 {n : Nat} (T : Txt w K mg cl A) (hM : ∀ i, i < nf → JJ P w K mg base cl A tab n i) (hF : ∀ i, i < nf → JJ P w K mg base cl A tab (n + 1) i) : JJ P w K mg base cl A tab (n + 2) 6 := let ⟨fd, F, b⟩ := T.f_6.ex; fnj_of b (by decide) (bk_6 T hM hF F)
/-- _law_set -/
theorem sc_7 : FnScope ["_law_cell_here", "_law_height"] ["_law_cell_here", "_law_height"] (defScope (top 14)) := C8.fnScope_by (by decide +kernel)
theorem bk_7 {n : Nat} {fd : FuncData} (T : Txt w K mg cl A) (hM : ∀ i, i < nf → JJ P w K mg base cl A tab n i) (hF : ∀ i, i < nf → JJ P w K mg base cl A tab (n + 1) i) (F : FunZ K "_law_set" "_law_set" (top 14) (A 7) fd) : FnR P w K mg base (L2.CX P w) (n + 2) (A 7) fd ["_law_cell_here", "_law_height"] (spF K cl 2 [] (tab.fnAt (n + 2) 7)) := by
  have attOk := attOkT T
  refine def_ok (df := d_7) F sc_7 rfl rfl (by decide) (by decide) fun cdv Aa outer s H E hr tk hp => ?_
  have B : Bd (cxOf (L2.CX P w) P w K mg base ["_law_cell_here", "_law_height"] "_law_set" (defScope (top 14)) (A 7) cdv Aa outer s H E) (fun cls d _ H => E cls d H) (n + 1) := ⟨hr, rfl, tk⟩
  show QSs _ cl _ [] (tab.at n) _ _
  exact rs_cons (rs_ite (rt_cmp B (re_bin (re_v 0) (re_k)) (re_k)) (rs_cons (rs_ret (re_un (re_bin (re_bin (re_v 0) (re_k)) (re_k)))) (rs_nil)) (rs_nil)) (rs_cons (rs_ite (rt_cmp B (re_bin (re_v 0) (re_k)) (re_k)) (rs_cons (rs_ret (re_bin (re_k) (re_bin (re_k) (re_bin (re_bin (re_v 0) (re_k)) (re_biB .max (bi_max rfl) T.n_max (ra_cons (re_k) (ra_cons (re_bin (re_v 1) (re_biT .int (bi_int) T.n_int (ra_cons (re_cmp B (re_bin (re_v 0) (re_k)) (re_k)) (ra_nil)))) (ra_nil)))))))) (rs_nil)) (rs_nil)) (rs_cons (rs_ret (re_bin (re_k) (re_ix B (re_lst (ra_cons (re_bin (re_bin (re_v 0) (re_k)) (re_k)) (ra_cons (re_bin (re_k) (re_bin (re_bin (re_v 0) (re_k)) (re_k))) (ra_nil)))) (re_bin (re_v 0) (re_k))))) (rs_nil)))
theorem b_7 {n : Nat} (T : Txt w K mg cl A) (hM : ∀ i, i < nf → JJ P w K mg base cl A tab n i) (hF : ∀ i, i < nf → JJ P w K mg base cl A tab (n + 1) i) : JJ P w K mg base cl A tab (n + 2) 7 := let ⟨fd, F, b⟩ := T.f_7.ex; fnj_of b (by decide) (bk_7 T hM hF F)
/-- _law_entry -/
theorem sc_8 : FnScope ["_law_cell_here", "_law_height", "_law_part", "_law_kept"] ["_law_cell_here"] (defScope (top 15)) := C8.fnScope_by (by decide +kernel)
theorem bk_8 {n : Nat} {fd : FuncData} (T : Txt w K mg cl A) (hM : ∀ i, i < nf → JJ P w K mg base cl A tab n i) (hF : ∀ i, i < nf → JJ P w K mg base cl A tab (n + 1) i) (F : FunZ K "_law_entry" "_law_entry" (top 15) (A 8) fd) : FnR P w K mg base (L2.CX P w) (n + 2) (A 8) fd ["_law_cell_here"] (spF K cl 1 [] (tab.fnAt (n + 2) 8)) := by
  have attOk := attOkT T
  refine def_ok (df := d_8) F sc_8 rfl rfl (by decide) (by decide) fun cdv Aa outer s H E hr tk hp => ?_
  have B : Bd (cxOf (L2.CX P w) P w K mg base ["_law_cell_here", "_law_height", "_law_part", "_law_kept"] "_law_entry" (defScope (top 15)) (A 8) cdv Aa outer s H E) (fun cls d _ H => E cls d H) (n + 1) := ⟨hr, rfl, tk⟩
  show QSs _ cl _ [] (tab.at n) _ _
  exact rs_cons (rs_ite (rt_cmp B (re_bin (re_v 0) (re_k)) (re_k)) (rs_cons (rs_ret (re_k)) (rs_nil)) (rs_nil)) (rs_cons (rs_asg 1 sc_8.nd (re_bin (re_bin (re_bin (re_v 0) (re_k)) (re_k)) (re_biT .int (bi_int) T.n_int (ra_cons (re_cmp B (re_bin (re_bin (re_v 0) (re_k)) (re_k)) (re_k)) (ra_nil))))) (rs_cons (rs_asg 2 sc_8.nd (re_bin (re_v 0) (re_k))) (rs_cons (rs_asg 3 sc_8.nd (re_tup (ra_cons (re_call 7 [] B (hF 7 (by decide)) T.m__law_set T.f_7.kp (ra_cons (re_bin (re_v 2) (re_k)) (ra_cons (re_v 1) (ra_nil)))) (ra_cons (re_call 7 [] B (hF 7 (by decide)) T.m__law_set T.f_7.kp (ra_cons (re_bin (re_v 2) (re_k)) (ra_cons (re_v 1) (ra_nil)))) (ra_cons (re_call 7 [] B (hF 7 (by decide)) T.m__law_set T.f_7.kp (ra_cons (re_bin (re_v 2) (re_k)) (ra_cons (re_v 1) (ra_nil)))) (ra_nil)))))) (rs_cons (rs_ret (re_tup (ra_cons (re_v 1) (ra_cons (re_call 7 [] B (hF 7 (by decide)) T.m__law_set T.f_7.kp (ra_cons (re_v 2) (ra_cons (re_v 1) (ra_nil)))) (ra_hold 3 (ra_nil)))))) (rs_nil)))))
theorem b_8 {n : Nat} (T : Txt w K mg cl A) (hM : ∀ i, i < nf → JJ P w K mg base cl A tab n i) (hF : ∀ i, i < nf → JJ P w K mg base cl A tab (n + 1) i) : JJ P w K mg base cl A tab (n + 2) 8 := let ⟨fd, F, b⟩ := T.f_8.ex; fnj_of b (by decide) (bk_8 T hM hF F)
/-- _law_value -/
theorem sc_9 : FnScope ["_law_places", "_law_entry_here", "_law_boxes", "_law_pile", "_law_length", "_law_low"] ["_law_places", "_law_entry_here", "_law_boxes", "_law_pile", "_law_length"] (defScope (top 16)) := C8.fnScope_by (by decide +kernel)
theorem bk_9 {n : Nat} {fd : FuncData} (T : Txt w K mg cl A) (hM : ∀ i, i < nf → JJ P w K mg base cl A tab n i) (hF : ∀ i, i < nf → JJ P w K mg base cl A tab (n + 1) i) (F : FunZ K "_law_value" "_law_value" (top 16) (A 9) fd) : FnR P w K mg base (L2.CX P w) (n + 2) (A 9) fd ["_law_places", "_law_entry_here", "_law_boxes", "_law_pile", "_law_length"] (spF K cl 5 [] (tab.fnAt (n + 2) 9)) := by
  have attOk := attOkT T
  refine def_ok (df := d_9) F sc_9 rfl rfl (by decide) (by decide) fun cdv Aa outer s H E hr tk hp => ?_
  have B : Bd (cxOf (L2.CX P w) P w K mg base ["_law_places", "_law_entry_here", "_law_boxes", "_law_pile", "_law_length", "_law_low"] "_law_value" (defScope (top 16)) (A 9) cdv Aa outer s H E) (fun cls d _ H => E cls d H) (n + 1) := ⟨hr, rfl, tk⟩
  show QSs _ cl _ [] (tab.at n) _ _
  exact rs_cons (rs_ite (rt_cmp B (re_v 0) (re_k)) (rs_cons (rs_ret (re_k)) (rs_nil)) (rs_nil)) (rs_cons (rs_asg 5 sc_9.nd (re_bin (re_bits (re_bin (re_v 0) (re_un (re_v 0)))) (re_k))) (rs_cons (rs_ite (rt_cmp B (re_v 5) (re_k)) (rs_cons (rs_ret (re_ix B (re_v 2) (re_v 5))) (rs_nil)) (rs_nil)) (rs_cons (rs_ite (rt_cmp B (re_bin (re_v 5) (re_k)) (re_ix B (re_v 1) (re_k))) (rs_cons (rs_ret (re_k)) (rs_nil)) (rs_nil)) (rs_cons (rs_ret (re_ix B (re_v 3) (re_bin (re_bin (re_bin (re_v 4) (re_ix B (re_v 1) (re_k))) (re_v 5)) (re_k)))) (rs_nil)))))
theorem b_9 {n : Nat} (T : Txt w K mg cl A) (hM : ∀ i, i < nf → JJ P w K mg base cl A tab n i) (hF : ∀ i, i < nf → JJ P w K mg base cl A tab (n + 1) i) : JJ P w K mg base cl A tab (n + 2) 9 := let ⟨fd, F, b⟩ := T.f_9.ex; fnj_of b (by decide) (bk_9 T hM hF F)
/-- _law_up -/
theorem sc_10 : FnScope ["_law_entry_here", "_law_boxes", "_law_pile", "_law_length", "_law_found", "_law_places"] ["_law_entry_here", "_law_boxes", "_law_pile", "_law_length"] (defScope (top 17)) := C8.fnScope_by (by decide +kernel)
theorem bk_10 {n : Nat} {fd : FuncData} (T : Txt w K mg cl A) (hM : ∀ i, i < nf → JJ P w K mg base cl A tab n i) (hF : ∀ i, i < nf → JJ P w K mg base cl A tab (n + 1) i) (F : FunZ K "_law_up" "_law_up" (top 17) (A 10) fd) : FnR P w K mg base (L2.CX P w) (n + 2) (A 10) fd ["_law_entry_here", "_law_boxes", "_law_pile", "_law_length"] (spF K cl 4 [] (tab.fnAt (n + 2) 10)) := by
  have attOk := attOkT T
  refine def_ok (df := d_10) F sc_10 rfl rfl (by decide) (by decide) fun cdv Aa outer s H E hr tk hp => ?_
  have B : Bd (cxOf (L2.CX P w) P w K mg base ["_law_entry_here", "_law_boxes", "_law_pile", "_law_length", "_law_found", "_law_places"] "_law_up" (defScope (top 17)) (A 10) cdv Aa outer s H E) (fun cls d _ H => E cls d H) (n + 1) := ⟨hr, rfl, tk⟩
  show QSs _ cl _ [] (tab.at n) _ _
  exact rs_cons (rs_ite (rt_w (rw_or (rt_cmp B (re_v 0) (re_k)) (rw_or (rt_cmp B (re_ix B (re_v 0) (re_k)) (re_k)) (rw_or1 (rt_cmp B (re_ix B (re_v 0) (re_k)) (re_v 3)))))) (rs_cons (rs_ret (re_k)) (rs_nil)) (rs_nil)) (rs_cons (rs_asg 4 sc_10.nd (re_lst (ra_nil))) (rs_cons (rs_for hp B (ri_e (re_lst (ra_cons (re_ix B (re_v 0) (re_k)) (ra_cons (re_ix B (re_ix B (re_v 0) (re_k)) (re_k)) (ra_cons (re_ix B (re_ix B (re_v 0) (re_k)) (re_k)) (ra_cons (re_ix B (re_ix B (re_v 0) (re_k)) (re_k)) (ra_nil))))))) (rg_name 5 sc_10.nd) (rs_cons (rs_ex (re_mut PySem.F.plainAttrs_list PySem.F.slot_list_append PySem.F.type_list_append mt_append (.inl ⟨rfl, by decide⟩) mt_app (rp_name _ 4) (ra_cons (re_call 9 [] B (hF 9 (by decide)) T.m__law_value T.f_9.kp (ra_cons (re_v 5) (ra_cons (re_v 0) (ra_cons (re_v 1) (ra_cons (re_v 2) (ra_cons (re_v 3) (ra_nil))))))) (ra_nil)))) (rs_nil))) (rs_cons (rs_ite (rt_bor (rt_cmp B (re_k) (re_v 4))) (rs_cons (rs_ret (re_k)) (rs_nil)) (rs_nil)) (rs_cons (rs_ret (re_tup (ra_cons (re_ix B (re_v 4) (re_k)) (ra_cons (re_tup (ra_cons (re_ix B (re_v 4) (re_k)) (ra_cons (re_ix B (re_v 4) (re_k)) (ra_cons (re_ix B (re_v 4) (re_k)) (ra_nil))))) (ra_cons (re_bin (re_v 3) (re_ix B (re_v 0) (re_k))) (ra_nil)))))) (rs_nil)))))
theorem b_10 {n : Nat} (T : Txt w K mg cl A) (hM : ∀ i, i < nf → JJ P w K mg base cl A tab n i) (hF : ∀ i, i < nf → JJ P w K mg base cl A tab (n + 1) i) : JJ P w K mg base cl A tab (n + 2) 10 := let ⟨fd, F, b⟩ := T.f_10.ex; fnj_of b (by decide) (bk_10 T hM hF F)
/-- _law_due -/
theorem sc_11 : FnScope ["_law_entries", "_law_row", "_law_boxes", "_law_pile", "_law_found", "_law_length", "_law_told_here", "_law_kept"] ["_law_entries", "_law_row", "_law_boxes", "_law_pile"] (defScope (top 18)) := C8.fnScope_by (by decide +kernel)
theorem bk_11 {n : Nat} {fd : FuncData} (T : Txt w K mg cl A) (hM : ∀ i, i < nf → JJ P w K mg base cl A tab n i) (hF : ∀ i, i < nf → JJ P w K mg base cl A tab (n + 1) i) (F : FunZ K "_law_due" "_law_due" (top 18) (A 11) fd) : FnR P w K mg base (L2.CX P w) (n + 2) (A 11) fd ["_law_entries", "_law_row", "_law_boxes", "_law_pile"] (spF K cl 4 [] (tab.fnAt (n + 2) 11)) := by
  have attOk := attOkT T
  refine def_ok (df := d_11) F sc_11 rfl rfl (by decide) (by decide) fun cdv Aa outer s H E hr tk hp => ?_
  have B : Bd (cxOf (L2.CX P w) P w K mg base ["_law_entries", "_law_row", "_law_boxes", "_law_pile", "_law_found", "_law_length", "_law_told_here", "_law_kept"] "_law_due" (defScope (top 18)) (A 11) cdv Aa outer s H E) (fun cls d _ H => E cls d H) (n + 1) := ⟨hr, rfl, tk⟩
  show QSs _ cl _ [] (tab.at n) _ _
  exact rs_cons (rs_asg 4 sc_11.nd (re_lst (ra_nil))) (rs_cons (rs_asg 5 sc_11.nd (re_biB .len (bi_len) T.n_len (ra_cons (re_v 3) (ra_nil)))) (rs_cons (rs_whl hp (rt_cmp B (re_v 1) (re_biB .len (bi_len) T.n_len (ra_cons (re_v 0) (ra_nil)))) (rs_cons (rs_asg 6 sc_11.nd (re_k)) (rs_cons (rs_ite (rt_bor (rt_w (rw_and (rt_chain B (re_k) (re_v 1) (re_biB .len (bi_len) T.n_len (ra_cons (re_v 0) (ra_nil)))) (rw_and1 (rt_cmp B (re_biB .len (bi_len) T.n_len (ra_cons (re_v 4) (ra_nil))) (re_k)))))) (rs_cons (rs_asg 6 sc_11.nd (re_call 10 [] B (hF 10 (by decide)) T.m__law_up T.f_10.kp (ra_cons (re_ix B (re_v 0) (re_v 1)) (ra_cons (re_v 2) (ra_cons (re_v 3) (ra_cons (re_v 5) (ra_nil))))))) (rs_nil)) (rs_nil)) (rs_cons (rs_ite (rt_cmp B (re_v 6) (re_k)) (rs_cons (rs_ret (re_tup (ra_cons (re_k) (ra_hold 1 (ra_nil))))) (rs_nil)) (rs_nil)) (rs_cons (rs_ex (re_mut PySem.F.plainAttrs_list PySem.F.slot_list_append PySem.F.type_list_append mt_append (.inl ⟨rfl, by decide⟩) mt_app (rp_name _ 4) (ra_cons (re_v 6) (ra_nil)))) (rs_cons (rs_unp (js := [1, 7, 5]) B (re_v 6) (tg_tup (js := [1, 7, 5]) (n := 3) B.hc rfl (pgs_cons (pg_name (i := 1) sc_11.nd rfl (by first | exact Or.inl rfl | exact Or.inr rfl) (by first | exact Or.inl rfl | exact Or.inr rfl)) (pgs_cons (pg_name (i := 7) sc_11.nd rfl (by first | exact Or.inl rfl | exact Or.inr rfl) (by first | exact Or.inl rfl | exact Or.inr rfl)) (pgs_cons (pg_name (i := 5) sc_11.nd rfl (by first | exact Or.inl rfl | exact Or.inr rfl) (by first | exact Or.inl rfl | exact Or.inr rfl)) (pgs_nil)))) rfl rfl) (by decide)) (rs_cons (rs_asg 2 sc_11.nd (re_lst (ra_cons (re_k) (ra_cons (re_k) (ra_cons (re_k) (ra_cons (re_k) (ra_cons (re_ix B (re_v 7) (re_k)) (ra_cons (re_ix B (re_v 7) (re_k)) (ra_cons (re_ix B (re_v 7) (re_k)) (ra_cons (re_k) (ra_nil))))))))))) (rs_nil)))))))) (rs_cons (rs_ret (re_tup (ra_cons (re_k) (ra_hold 4 (ra_nil))))) (rs_nil))))
theorem b_11 {n : Nat} (T : Txt w K mg cl A) (hM : ∀ i, i < nf → JJ P w K mg base cl A tab n i) (hF : ∀ i, i < nf → JJ P w K mg base cl A tab (n + 1) i) : JJ P w K mg base cl A tab (n + 2) 11 := let ⟨fd, F, b⟩ := T.f_11.ex; fnj_of b (by decide) (bk_11 T hM hF F)
/-- _law_told -/
theorem sc_12 : FnScope ["_law_table", "_law_row", "_law_boxes", "_law_pile", "_law_told_here", "_law_right", "e"] ["_law_table", "_law_row", "_law_boxes", "_law_pile"] (defScope (top 19)) := C8.fnScope_by (by decide +kernel)
theorem bk_12 {n : Nat} {fd : FuncData} (T : Txt w K mg cl A) (hM : ∀ i, i < nf → JJ P w K mg base cl A tab n i) (hF : ∀ i, i < nf → JJ P w K mg base cl A tab (n + 1) i) (F : FunZ K "_law_told" "_law_told" (top 19) (A 12) fd) : FnR P w K mg base (L2.CX P w) (n + 2) (A 12) fd ["_law_table", "_law_row", "_law_boxes", "_law_pile"] (spF K cl 4 [] (tab.fnAt (n + 2) 12)) := by
  have attOk := attOkT T
  refine def_ok (df := d_12) F sc_12 rfl rfl (by decide) (by decide) fun cdv Aa outer s H E hr tk hp => ?_
  have B : Bd (cxOf (L2.CX P w) P w K mg base ["_law_table", "_law_row", "_law_boxes", "_law_pile", "_law_told_here", "_law_right", "e"] "_law_told" (defScope (top 19)) (A 12) cdv Aa outer s H E) (fun cls d _ H => E cls d H) (n + 1) := ⟨hr, rfl, tk⟩
  show QSs _ cl _ [] (tab.at n) _ _
  exact rs_cons (rs_asg 4 sc_12.nd (re_k)) (rs_cons (rs_asg 5 sc_12.nd (re_k)) (rs_cons (rs_tryAs2 6 B rfl rfl sc_12.nd rfl rfl ⟨rfl, by decide, Or.inl T.c_1⟩ (exm_1 T) rfl (fun W1 pn1 xe1 tk1 hp1 => by have B := B.tr tk1; have hp := hp1; exact rs_cons (rs_asg 4 sc_12.nd (re_tup (ra_cons (re_k) (ra_cons (re_call 4 [] B (hF 4 (by decide)) T.m_callers T.f_4.kp (ra_cons (re_v 0) (ra_cons (re_v 1) (ra_cons (re_v 2) (ra_cons (re_v 3) (ra_nil)))))) (ra_nil))))) (rs_nil)) (fun a oe xx d pn hsub hz hf => rx2_asgF (io := [6]) 4 rfl hsub (xfok_1_row T) hz hf (rx2_asg (io := [6]) 5 rfl (pb2_and (pb2_is (isx_0 T) hz hf T.n_isinstance (pe_glob rfl T.c_0 rfl) (by decide +kernel) rfl (by decide) rfl rfl (by first | exact Or.inl rfl | exact Or.inr (Or.inl rfl) | exact Or.inr (Or.inr rfl)) rfl rfl rfl rfl rfl) (pb2_one (pb2_is (isx_1000 T) hz hf T.n_isinstance (pe_bltn rfl T.n_ValueError (by decide +kernel) rfl) (by decide +kernel) rfl (by decide) rfl rfl (by first | exact Or.inl rfl | exact Or.inr (Or.inl rfl) | exact Or.inr (Or.inr rfl)) rfl rfl rfl rfl rfl))) (rx2_nil) (by decide) sc_12.nd rfl (by first | exact Or.inl rfl | exact Or.inr rfl) rfl (by first | exact .inl rfl | exact .inr rfl) rfl) (by decide) sc_12.nd rfl (by first | exact Or.inl rfl | exact Or.inr rfl) rfl (by first | exact Or.inl rfl | exact Or.inr (Or.inl rfl) | exact Or.inr (Or.inr rfl)) rfl rfl rfl (by first | exact .inl rfl | exact .inr rfl) rfl rfl rfl rfl)) (rs_cons (rs_ite (rt_not (rt_e (re_v 5))) (rs_cons (rs_ret (re_tup (ra_cons (re_k) (ra_cons (re_k) (ra_nil))))) (rs_nil)) (rs_nil)) (rs_cons (rs_ret (re_hold 4)) (rs_nil)))))
theorem b_12 {n : Nat} (T : Txt w K mg cl A) (hM : ∀ i, i < nf → JJ P w K mg base cl A tab n i) (hF : ∀ i, i < nf → JJ P w K mg base cl A tab (n + 1) i) : JJ P w K mg base cl A tab (n + 2) 12 := let ⟨fd, F, b⟩ := T.f_12.ex; fnj_of b (by decide) (bk_12 T hM hF F)
/-- law -/
theorem sc_13 : FnScope ["_law_script", "_law_many", "_law_entries", "_law_row", "_law_boxes", "_law_pile", "_law_cell_here", "_law_handed", "_law_due_here", "_law_found", "_law_k"] ["_law_script"] (defScope (top 20)) := C8.fnScope_by (by decide +kernel)
theorem bk_13 {n : Nat} {fd : FuncData} (T : Txt w K mg cl A) (hM : ∀ i, i < nf → JJ P w K mg base cl A tab n i) (hF : ∀ i, i < nf → JJ P w K mg base cl A tab (n + 1) i) (F : FunZ K "law" "law" (top 20) (A 13) fd) : FnR P w K mg base (L2.CX P w) (n + 2) (A 13) fd ["_law_script"] (spF K cl 1 [] (tab.fnAt (n + 2) 13)) := by
  have attOk := attOkT T
  refine def_ok (df := d_13) F sc_13 rfl rfl (by decide) (by decide) fun cdv Aa outer s H E hr tk hp => ?_
  have B : Bd (cxOf (L2.CX P w) P w K mg base ["_law_script", "_law_many", "_law_entries", "_law_row", "_law_boxes", "_law_pile", "_law_cell_here", "_law_handed", "_law_due_here", "_law_found", "_law_k"] "law" (defScope (top 20)) (A 13) cdv Aa outer s H E) (fun cls d _ H => E cls d H) (n + 1) := ⟨hr, rfl, tk⟩
  show QSs _ cl _ [] (tab.at n) _ _
  exact rs_cons (rs_asg 1 sc_13.nd (re_bin (re_k) (re_bin (re_call 5 [] B (hF 5 (by decide)) T.m__law_cell_at T.f_5.kp (ra_cons (re_v 0) (ra_cons (re_k) (ra_nil)))) (re_k)))) (rs_cons (rs_asgLc 2 [("_law_k", 10)] sc_13.nd B (ri_rng1 T.n_range (re_v 1)) (by show blkC ["_law_script", "_law_many", "_law_entries", "_law_row", "_law_boxes", "_law_pile", "_law_cell_here", "_law_handed", "_law_due_here", "_law_found", "_law_k"] (defScope (top 20)) _ [("_law_k", 10)] = true; decide +kernel) (tgr_name 10) (fun s H C cl' fp => pg_name (i := 10) sc_13.nd rfl (Or.inl rfl) (Or.inr rfl)) (fun s H C cl' fp => rl_no) (fun s H C cl' fp => re_call 8 [] B.blk (hF 8 (by decide)) T.m__law_entry T.f_8.kp (ra_cons (re_call 5 [] B.blk (hF 5 (by decide)) T.m__law_cell_at T.f_5.kp (ra_cons (re_v 0) (ra_cons (re_bin (re_k) (re_v 10)) (ra_nil)))) (ra_nil))) rfl) (rs_cons (rs_asg 3 sc_13.nd (re_bin (re_call 5 [] B (hF 5 (by decide)) T.m__law_cell_at T.f_5.kp (ra_cons (re_v 0) (ra_cons (re_k) (ra_nil)))) (re_v 1))) (rs_cons (rs_ite (rt_cmp B (re_bin (re_bin (re_call 5 [] B (hF 5 (by decide)) T.m__law_cell_at T.f_5.kp (ra_cons (re_v 0) (ra_cons (re_k) (ra_nil)))) (re_k)) (re_k)) (re_k)) (rs_cons (rs_asg 3 sc_13.nd (re_bin (re_bin (re_bin (re_call 5 [] B (hF 5 (by decide)) T.m__law_cell_at T.f_5.kp (ra_cons (re_v 0) (ra_cons (re_k) (ra_nil)))) (re_k)) (re_bin (re_v 1) (re_k))) (re_k))) (rs_nil)) (rs_nil)) (rs_cons (rs_asgLc 4 [("_law_k", 10)] sc_13.nd B (ri_rng1 T.n_range (re_k)) (by show blkC ["_law_script", "_law_many", "_law_entries", "_law_row", "_law_boxes", "_law_pile", "_law_cell_here", "_law_handed", "_law_due_here", "_law_found", "_law_k"] (defScope (top 20)) _ [("_law_k", 10)] = true; decide +kernel) (tgr_name 10) (fun s H C cl' fp => pg_name (i := 10) sc_13.nd rfl (Or.inl rfl) (Or.inr rfl)) (fun s H C cl' fp => rl_no) (fun s H C cl' fp => re_call 6 [] B.blk (hF 6 (by decide)) T.m__law_cell T.f_6.kp (ra_cons (re_call 5 [] B.blk (hF 5 (by decide)) T.m__law_cell_at T.f_5.kp (ra_cons (re_v 0) (ra_cons (re_bin (re_k) (re_v 10)) (ra_nil)))) (ra_cons (re_v 1) (ra_nil)))) rfl) (rs_cons (rs_asg 5 sc_13.nd (re_lst (ra_nil))) (rs_cons (rs_for hp B (ri_e (re_sl (re_v 0) (so_some (re_k)) (so_some (re_bin (re_k) (re_bin (re_call 5 [] B (hF 5 (by decide)) T.m__law_cell_at T.f_5.kp (ra_cons (re_v 0) (ra_cons (re_k) (ra_nil)))) (re_k)))))) (rg_name 6 sc_13.nd) (rs_cons (rs_ex (re_mut PySem.F.plainAttrs_list PySem.F.slot_list_append PySem.F.type_list_append mt_append (.inl ⟨rfl, by decide⟩) mt_app (rp_name _ 5) (ra_cons (re_call 6 [] B (hF 6 (by decide)) T.m__law_cell T.f_6.kp (ra_cons (re_v 6) (ra_cons (re_v 1) (ra_nil)))) (ra_nil)))) (rs_nil))) (rs_cons (rs_asg 7 sc_13.nd (re_lst (ra_cons (re_biT .list (bi_list) T.n_list (ra_cons (re_v 4) (ra_nil))) (ra_cons (re_biT .list (bi_list) T.n_list (ra_cons (re_v 5) (ra_nil))) (ra_nil))))) (rs_cons (rs_asg 8 sc_13.nd (re_call 11 [] B (hF 11 (by decide)) T.m__law_due T.f_11.kp (ra_cons (re_v 2) (ra_cons (re_v 3) (ra_cons (re_v 4) (ra_cons (re_v 5) (ra_nil))))))) (rs_cons (rs_asg 9 sc_13.nd (re_call 12 [] B (hF 12 (by decide)) T.m__law_told T.f_12.kp (ra_cons (re_mkD 2 [.none] B (mkJ_of (nf := nf) hM (by decide) T.mk_2 rfl) (show ([.none] : List Const) ∈ ([[.none]] : List (List Const)) from List.mem_singleton.mpr rfl) T.c_2 T.mk_2.kp (ra_cons (re_v 2) (ra_nil))) (ra_cons (re_v 3) (ra_cons (re_ix B (re_v 7) (re_k)) (ra_cons (re_ix B (re_v 7) (re_k)) (ra_nil))))))) (rs_cons (rs_ite (rt_bor (rt_cmp B (re_v 7) (re_lst (ra_cons (re_v 4) (ra_cons (re_v 5) (ra_nil)))))) (rs_cons (rs_ret (re_k)) (rs_nil)) (rs_nil)) (rs_cons (rs_ret (re_cmp B (re_v 9) (re_v 8))) (rs_nil))))))))))))
theorem b_13 {n : Nat} (T : Txt w K mg cl A) (hM : ∀ i, i < nf → JJ P w K mg base cl A tab n i) (hF : ∀ i, i < nf → JJ P w K mg base cl A tab (n + 1) i) : JJ P w K mg base cl A tab (n + 2) 13 := let ⟨fd, F, b⟩ := T.f_13.ex; fnj_of b (by decide) (bk_13 T hM hF F)
theorem all_ok (T : Txt w K mg cl A) (n : Nat) : ∀ i, i < nf → JJ P w K mg base cl A tab n i := (levels (nf := nf) (fun i hi => by
  match i, hi with
  | 0, _ => exact ⟨_, _, _, _, T.f_0.ex, rfl, by decide⟩
  | 1, _ => exact ⟨_, _, _, _, T.f_1.ex, rfl, by decide⟩
  | 2, _ => exact ⟨_, _, _, _, T.f_2.ex, rfl, by decide⟩
  | 3, _ => exact ⟨_, _, _, _, T.f_3.ex, rfl, by decide⟩
  | 4, _ => exact ⟨_, _, _, _, T.f_4.ex, rfl, by decide⟩
  | 5, _ => exact ⟨_, _, _, _, T.f_5.ex, rfl, by decide⟩
  | 6, _ => exact ⟨_, _, _, _, T.f_6.ex, rfl, by decide⟩
  | 7, _ => exact ⟨_, _, _, _, T.f_7.ex, rfl, by decide⟩
  | 8, _ => exact ⟨_, _, _, _, T.f_8.ex, rfl, by decide⟩
  | 9, _ => exact ⟨_, _, _, _, T.f_9.ex, rfl, by decide⟩
  | 10, _ => exact ⟨_, _, _, _, T.f_10.ex, rfl, by decide⟩
  | 11, _ => exact ⟨_, _, _, _, T.f_11.ex, rfl, by decide⟩
  | 12, _ => exact ⟨_, _, _, _, T.f_12.ex, rfl, by decide⟩
  | 13, _ => exact ⟨_, _, _, _, T.f_13.ex, rfl, by decide⟩
  | i + 14, hi => exact absurd hi (by simp [nf])) (fun n hM hF i hi => by
  match i, hi with
  | 0, _ => exact b_0 T hM hF
  | 1, _ => exact b_1 T hM hF
  | 2, _ => exact b_2 T hM hF
  | 3, _ => exact b_3 T hM hF
  | 4, _ => exact b_4 T hM hF
  | 5, _ => exact b_5 T hM hF
  | 6, _ => exact b_6 T hM hF
  | 7, _ => exact b_7 T hM hF
  | 8, _ => exact b_8 T hM hF
  | 9, _ => exact b_9 T hM hF
  | 10, _ => exact b_10 T hM hF
  | 11, _ => exact b_11 T hM hF
  | 12, _ => exact b_12 T hM hF
  | 13, _ => exact b_13 T hM hF
  | i + 14, hi => exact absurd hi (by simp [nf])) n).1
end
-- LAW index 13, level 24

end Law
namespace Law
open PySem L2 FB
theorem fa_eq (n i : Nat) : tab.fnAt (n + 2) i = fnSem (tab.at n) (defsT i) := (rfl)
theorem at_fn (n i : Nat) : (tab.at n).fn i = tab.fnAt (n + 1) i := (rfl)
theorem at_mak (n c : Nat) : (tab.at n).mak c = makSem c (tab.fnAt n (iniT c)) := (rfl)
theorem at_att (n : Nat) : (tab.at n).att = attT := (rfl)
theorem at_mth (n : Nat) : (tab.at n).mth = mthT := (rfl)
theorem at_isk (n : Nat) : (tab.at n).isk = iskT := (rfl)
theorem at_gl (n : Nat) : (tab.at n).gl = glT := (rfl)
theorem at_iof (n i : Nat) : (tab.at n).iof i = (defsT i).io := (rfl)
theorem eqD_int (i j : Int) : eqD (.int i) (.int j) = some (decide (i = j)) := by
  simp only [eqD, toPy, PyData.depth, PyData.eqv, Bool.beq_eq_decide_eq]
  rfl
theorem atI_getD {ns : List Int} {k : Nat} (h : k < ns.length) : atI (ns.map D.int) (k : Int) = some (.int (ns.getD k 0)) := by
  unfold atI ixN
  rw [if_pos (by omega)]
  simp [h]
theorem atI_z {ns : List Int} {z : Int} (h0 : 0 ≤ z) (h : z < ns.length) : atI (ns.map D.int) z = some (.int (ns.getD z.toNat 0)) := by
  have := atI_getD (ns := ns) (k := z.toNat) (by omega)
  rwa [Int.toNat_of_nonneg h0] at this
theorem f24 (n : Nat) (ns : List Int) (k : Nat) : tab.fnAt (n + 2) 5 [(.frz (ns.map .int), .sh), (.int k, .sh)] = .ok (.int (ns.getD k 0)) .sh [] := by
  rw [fa_eq]
  by_cases h : k < ns.length
  · have e : decide ((k : Int) < (ns.length : Int)) = true := by simpa using h
    simp [defsT, fnSem, evSs, evS, evE, evEs, evT, evI, rdV, shN, finIo, Ev.bind, Ev.fl, Fl.seq, opt, binD, constD, cmpD, eqD_int, truD, ixD, biD, mkO, O.isSh, dflt, ofRt, backIo, at_fn, at_mak, at_att, at_mth, at_isk, at_gl, at_iof, glT, iniT, makSem, holdsOf, bkOk, d_5, h, atI_getD h]
  · have e : decide ((k : Int) < (ns.length : Int)) = false := by simpa using h
    have e2 : ns.getD k 0 = 0 := by simp [List.getD, Nat.not_lt.mp h]
    simp [defsT, fnSem, evSs, evS, evE, evEs, evT, evI, rdV, shN, finIo, Ev.bind, Ev.fl, Fl.seq, opt, binD, constD, cmpD, eqD_int, truD, ixD, biD, mkO, O.isSh, dflt, ofRt, backIo, at_fn, at_mak, at_att, at_mth, at_isk, at_gl, at_iof, glT, iniT, makSem, holdsOf, bkOk, d_5, h]
theorem f24z (n : Nat) (ns : List Int) (z : Int) (h : 0 ≤ z) : tab.fnAt (n + 2) 5 [(.frz (ns.map .int), .sh), (.int z, .sh)] = .ok (.int (ns.getD z.toNat 0)) .sh [] := by
  have := f24 n ns z.toNat
  rwa [Int.toNat_of_nonneg h] at this
theorem lcLoop_map {body : D → FEnv → Ev (Option D)} {h : D → D} {ρ : FEnv} : ∀ {ds : List D}, (∀ d ∈ ds, body d ρ = .ok (some (h d)) ρ) → lcLoop body ds ρ = .ok (ds.map h) ρ
  | [], _ => rfl
  | d :: ds, H => by
    simp only [lcLoop, H d List.mem_cons_self, lcLoop_map (ds := ds) fun x hx => H x (List.mem_cons_of_mem _ hx), List.map_cons]
theorem rep_flat (m : Nat) (z : Int) : (List.replicate m [D.int z]).flatten = (List.replicate m z).map D.int := by
  induction m with
  | zero => rfl
  | succ m ih => rw [List.replicate_succ, List.replicate_succ, List.flatten_cons, ih, List.map_cons]; rfl
theorem cutTake (P : List Int) (m : Nat) (h : m ≤ P.length) : cutL (P.map D.int) none (some ((P.length : Int) - (m : Int))) = (P.take (P.length - m)).map D.int := by
  have e : (P.length : Int) - (m : Int) = ((P.length - m : Nat) : Int) := by omega
  rw [e]
  unfold cutL
  rw [HT.sIx_none, HT.sIx_nat, List.length_map]
  have e2 : min (P.length - m) P.length = P.length - m := by omega
  rw [e2]
  simp [List.map_take]
theorem mulL (m : Nat) (z : Int) (h : m ≤ 4000) : binD .Mult (.lst [.int z]) (.int m) = some (.lst ((List.replicate m z).map .int), .root) := by
  have e : (m : Int).toNat < 16000000 ∧ [D.int z].length * (m : Int).toNat ≤ 16000000 ∧ 0 ≤ (m : Int) := by
    refine ⟨by omega, ?_, by omega⟩
    rw [List.length_singleton, Int.toNat_natCast]
    omega
  simp only [binD]
  rw [if_pos e, Int.toNat_natCast, rep_flat]
theorem addL (A B : List Int) (h : A.length ≤ 4000) (h2 : B.length ≤ 4000) : binD .Add (.lst (A.map .int)) (.lst (B.map .int)) = some (.lst ((A ++ B).map .int), .root) := by
  simp only [binD]
  rw [if_pos (by rw [List.length_map, List.length_map]; omega), List.map_append]
/-- [z] * m -/
theorem ev_mul {pg : Pg} {B C : E} {ρ ρ1 ρ2 : FEnv} {z : Int} {m : Nat} (xB : evE pg B ρ = .ok (.lst [.int z], .root) ρ1) (xC : evE pg C ρ1 = .ok (.int m, .sh) ρ2) (hm : m ≤ 4000) :
    evE pg (.bin .Mult B C) ρ = .ok (.lst ((List.replicate m z).map .int), .root) ρ2 := by
  show (evE pg B ρ).bind _ = _
  rw [xB]
  show (evE pg C ρ1).bind _ = _
  rw [xC]
  show opt (binD .Mult (.lst [.int z]) (.int m)) ρ2 _ = _
  rw [mulL m z hm]
  rfl
/-- list + [z] * m, step by step -/
theorem ev_rep {pg : Pg} {A B C : E} {ρ : FEnv} {P : List Int} {z : Int} {m : Nat} {o : O} (xA : evE pg A ρ = .ok (.lst (P.map .int), o) ρ) (xB : evE pg B ρ = .ok (.lst [.int z], .root) ρ) (xC : evE pg C ρ = .ok (.int m, .sh) ρ) (hm : m ≤ 4000) (hP : P.length ≤ 4000) :
    evE pg (.bin .Add A (.bin .Mult B C)) ρ = .ok (.lst ((P ++ List.replicate m z).map .int), .root) ρ := by
  show (evE pg A ρ).bind _ = _
  rw [xA]
  show (evE pg (.bin .Mult B C) ρ).bind _ = _
  rw [ev_mul xB xC hm]
  show opt (binD .Add (.lst (P.map .int)) (.lst ((List.replicate m z).map .int))) ρ _ = _
  rw [addL P (List.replicate m z) hP (by rw [List.length_replicate]; exact hm)]
  rfl
theorem hli (ds : List D) : biD .list [.lst ds] = some (.lst ds, .root) := (rfl)
theorem isNon_non : D.isNon .non = true := (rfl)
theorem isNon_tup (ds : List D) : D.isNon (.tup ds) = false := (rfl)
theorem isNon_int (i : Int) : D.isNon (.int i) = false := (rfl)
theorem isNon_obj (c : Nat) (fs : List Str) (ds : List D) : D.isNon (.obj c fs ds) = false := (rfl)
theorem ix2b (a b : D) (c : Bool) : ixD (.lst [a, b]) (.bl c) = some (if c then b else a) := by cases c <;> rfl
theorem shN_sh : ∀ (k : Nat) (xs : List DO), shN [] k xs = shN [] k (xs.map fun x => (x.1, .sh))
  | _, [] => rfl
  | k, x :: xs => by simp [shN, shN_sh (k + 1) xs]
/-- a def that holds nothing: how its arguments are owned is all one -/
theorem fa_sh {n i : Nat} {args : List DO} {r : Rt} (h : (defsT i).io = []) (e : tab.fnAt (n + 2) i (args.map fun x => (x.1, .sh)) = r) : tab.fnAt (n + 2) i args = r := by
  rw [← e, fa_eq]
  unfold fnSem
  rw [h, List.length_map, shN_sh 0 args]
theorem sm64 {a b : Int} (h : 0 ≤ a) (h2 : a ≤ 4294967295) : binD .Mult (.int a) (.int b) = some (.int (a * b), .sh) := by
  have e : FB.small64 a = true := by
    unfold FB.small64
    simp only [Bool.and_eq_true, decide_eq_true_eq]
    omega
  simp only [binD, e, Bool.true_or, if_true]
theorem lcLoop_fil {body : D → FEnv → Ev (Option D)} {f : Nat → D} {q : Nat → Bool} {ρ : FEnv} : ∀ {L : List Nat}, (∀ p ∈ L, body (f p) ρ = .ok (if q p then some (f p) else none) ρ) → lcLoop body (L.map f) ρ = .ok ((L.filter q).map f) ρ
  | [], _ => rfl
  | p :: L, H => by
    have ih := lcLoop_fil (L := L) fun x hx => H x (List.mem_cons_of_mem _ hx)
    have h0 := H p List.mem_cons_self
    cases e : q p with
    | true =>
      rw [e] at h0
      simp only [if_true] at h0
      simp only [List.map_cons, lcLoop, h0, ih, List.filter_cons, e, if_true]
    | false =>
      rw [e] at h0
      simp only [Bool.false_eq_true, if_false] at h0
      simp only [List.map_cons, lcLoop, h0, ih, List.filter_cons, e, Bool.false_eq_true, if_false]
/-- a list of naturals -/
def dN (L : List Nat) : List D := List.map (fun p : Nat => D.int (p : Int)) L

/-- data of at most that depth -/
def Dt (k : Nat) (d : D) : Prop := ∃ p, toPy d = some p ∧ p.depth ≤ k
def Dts (k : Nat) (ds : List D) : Prop := ∃ ps, toPys ds = some ps ∧ PyData.depthAll ps ≤ k
theorem Dts.nil {k : Nat} : Dts k [] := ⟨[], rfl, by simp [PyData.depthAll]⟩
theorem Dts.cons {k : Nat} {d : D} {ds : List D} (h : Dt k d) (hs : Dts k ds) : Dts k (d :: ds) := by
  obtain ⟨p, e, l⟩ := h
  obtain ⟨ps, e2, l2⟩ := hs
  exact ⟨p :: ps, by simp [toPys, e, e2], by simp [PyData.depthAll]; omega⟩
theorem Dts.of {k : Nat} : ∀ {ds : List D}, (∀ d ∈ ds, Dt k d) → Dts k ds
  | [], _ => .nil
  | d :: ds, h => .cons (h d List.mem_cons_self) (.of fun x hx => h x (List.mem_cons_of_mem _ hx))
theorem Dt.non {k : Nat} : Dt k .non := ⟨_, rfl, by simp [PyData.depth]⟩
theorem Dt.int {k : Nat} {i : Int} : Dt k (.int i) := ⟨_, rfl, by simp [PyData.depth]⟩
theorem Dt.bl {k : Nat} {b : Bool} : Dt k (.bl b) := ⟨_, rfl, by simp [PyData.depth]⟩
theorem Dt.str {k : Nat} {s : Str} : Dt k (.str s) := ⟨_, rfl, by simp [PyData.depth]⟩
theorem Dt.tup {k : Nat} {ds : List D} (h : Dts k ds) : Dt (k + 1) (.tup ds) := by
  obtain ⟨ps, e, l⟩ := h
  exact ⟨_, by simp [toPy, e]; rfl, by simp [PyData.depth]; omega⟩
theorem Dt.lst {k : Nat} {ds : List D} (h : Dts k ds) : Dt (k + 1) (.lst ds) := by
  obtain ⟨ps, e, l⟩ := h
  exact ⟨_, by simp [toPy, e]; rfl, by simp [PyData.depth]; omega⟩
mutual
theorem eqvD : ∀ (d : D) {p : PyData}, toPy d = some p → PyData.eqv p p = true
  | .non, _, h => by cases h; simp [PyData.eqv]
  | .bl _, _, h => by cases h; simp [PyData.eqv]
  | .int _, _, h => by cases h; simp [PyData.eqv]
  | .str _, _, h => by cases h; simp [PyData.eqv]
  | .lst ds, p, h => by
    simp only [toPy, Option.map_eq_some_iff] at h
    obtain ⟨ps, e, rfl⟩ := h
    simp [PyData.eqv, eqvDs ds e]
  | .tup ds, p, h => by
    simp only [toPy, Option.map_eq_some_iff] at h
    obtain ⟨ps, e, rfl⟩ := h
    simp [PyData.eqv, eqvDs ds e]
  | .frz ds, p, h => by
    simp only [toPy, Option.map_eq_some_iff] at h
    obtain ⟨ps, e, rfl⟩ := h
    simp [PyData.eqv, eqvDs ds e]
  | .dic _ _, _, h => by cases h
  | .obj _ _ _, _, h => by cases h
theorem eqvDs : ∀ (ds : List D) {ps : List PyData}, toPys ds = some ps → PyData.eqvAll ps ps = true
  | [], _, h => by cases h; simp [PyData.eqvAll]
  | d :: ds, ps, h => by
    unfold toPys at h
    split at h
    · rename_i p ps' e1 e2
      cases h
      simp [PyData.eqvAll, eqvD d e1, eqvDs ds e2]
    · cases h
end
theorem eqD_self {d : D} (h : Dt 60 d) : eqD d d = some true := by
  obtain ⟨p, e, l⟩ := h
  simp only [eqD, e, Nat.min_self, if_pos l, eqvD d e]
theorem eqD_nil {ds : List D} {k : Nat} (h : Dts k ds) : eqD (.lst ds) (.lst []) = some ds.isEmpty := by
  obtain ⟨ps, e, l⟩ := h
  have e2 : ps.isEmpty = ds.isEmpty := by
    cases ds with
    | nil => cases e; rfl
    | cons d ds =>
      unfold toPys at e
      split at e
      · cases e; rfl
      · cases e
  have hd : (PyData.list ([] : List PyData)).depth ≤ 60 := by simp [PyData.depth, PyData.depthAll]
  have h0 : toPy (.lst []) = some (.list []) := rfl
  have h1 : toPy (.lst ds) = some (.list ps) := by simp [toPy, e]
  simp only [eqD, h0, h1]
  rw [if_pos (by omega)]
  cases ps with
  | nil => simp [PyData.eqv, PyData.eqvAll, ← e2]
  | cons p ps => simp [PyData.eqv, PyData.eqvAll, ← e2]

theorem at_pfn (n i : Nat) (xs : List DO) : (tab.at n).fn i xs = tab.fnAt (n + 1) i xs := (rfl)
theorem at_sub (n : Nat) : (tab.at n).sub = subT := (rfl)
theorem at_tb (n : Nat) : (tab.at n).tb = tbT := (rfl)
theorem at_fuel (n : Nat) : (tab.at n).fuel = 1000000 := (rfl)
theorem fl_2_entries (d0 d1 : D) : fldO attT (.obj 2 (["entries", "landings"] : List Str) [d0, d1]) "entries" = some d0 := by kernel_rfl
theorem rn_2_entries (d0 d1 : D) (o0 o1 : O) : rdO attT (.obj 2 (["entries", "landings"] : List Str) [d0, d1]) (.node [o0, o1]) "entries" = some (d0, .node [.sh, o1]) := by kernel_rfl
theorem rr_2_entries (d0 d1 : D) : rdO attT (.obj 2 (["entries", "landings"] : List Str) [d0, d1]) .root "entries" = some (d0, .root) := by kernel_rfl
theorem ga_2_entries (d0 d1 : D) (o0 o1 : O) : getAt attT [.fld "entries"] ((.obj 2 (["entries", "landings"] : List Str) [d0, d1]), (.node [o0, o1])) = some (d0, o0) := by kernel_rfl
theorem sa_2_entries (d0 d1 : D) (o0 o1 : O) (y : D) (oy : O) : setAt [.fld "entries"] ((.obj 2 (["entries", "landings"] : List Str) [d0, d1]), (.node [o0, o1])) (y, oy) = some (.obj 2 (["entries", "landings"] : List Str) [y, d1], .node [oy, o1]) := by kernel_rfl
theorem sn_2_entries (d0 d1 : D) (o0 o1 : O) (y : D) (oy : O) : setfO attT (.obj 2 (["entries", "landings"] : List Str) [d0, d1]) (.node [o0, o1]) "entries" y oy = some (.obj 2 (["entries", "landings"] : List Str) [y, d1], .node [oy, o1]) := by kernel_rfl
theorem sr_2_entries (d0 d1 : D) (y : D) : setfO attT (.obj 2 (["entries", "landings"] : List Str) [d0, d1]) .root "entries" y .sh = some (.obj 2 (["entries", "landings"] : List Str) [y, d1], .root) := by kernel_rfl
theorem so_2_entries (d0 d1 : D) (y : D) : setfO attT (.obj 2 (["entries", "landings"] : List Str) [d0, d1]) .root "entries" y .root = some (.obj 2 (["entries", "landings"] : List Str) [y, d1], .node [.root, .sh]) := by kernel_rfl
theorem pn_2_entries (y : D) (oy : O) : setfO attT (.obj 2 ([] : List Str) []) (.node []) "entries" y oy = some (.obj 2 (["entries"] : List Str) [y], .node [oy]) := by kernel_rfl
theorem pr_2_entries (y : D) : setfO attT (.obj 2 ([] : List Str) []) .root "entries" y .sh = some (.obj 2 (["entries"] : List Str) [y], .root) := by kernel_rfl
theorem po_2_entries (y : D) : setfO attT (.obj 2 ([] : List Str) []) .root "entries" y .root = some (.obj 2 (["entries"] : List Str) [y], .node [.root]) := by kernel_rfl
theorem fl_2_landings (d0 d1 : D) : fldO attT (.obj 2 (["entries", "landings"] : List Str) [d0, d1]) "landings" = some d1 := by kernel_rfl
theorem rn_2_landings (d0 d1 : D) (o0 o1 : O) : rdO attT (.obj 2 (["entries", "landings"] : List Str) [d0, d1]) (.node [o0, o1]) "landings" = some (d1, .node [o0, .sh]) := by kernel_rfl
theorem rr_2_landings (d0 d1 : D) : rdO attT (.obj 2 (["entries", "landings"] : List Str) [d0, d1]) .root "landings" = some (d1, .root) := by kernel_rfl
theorem ga_2_landings (d0 d1 : D) (o0 o1 : O) : getAt attT [.fld "landings"] ((.obj 2 (["entries", "landings"] : List Str) [d0, d1]), (.node [o0, o1])) = some (d1, o1) := by kernel_rfl
theorem sa_2_landings (d0 d1 : D) (o0 o1 : O) (y : D) (oy : O) : setAt [.fld "landings"] ((.obj 2 (["entries", "landings"] : List Str) [d0, d1]), (.node [o0, o1])) (y, oy) = some (.obj 2 (["entries", "landings"] : List Str) [d0, y], .node [o0, oy]) := by kernel_rfl
theorem sn_2_landings (d0 d1 : D) (o0 o1 : O) (y : D) (oy : O) : setfO attT (.obj 2 (["entries", "landings"] : List Str) [d0, d1]) (.node [o0, o1]) "landings" y oy = some (.obj 2 (["entries", "landings"] : List Str) [d0, y], .node [o0, oy]) := by kernel_rfl
theorem sr_2_landings (d0 d1 : D) (y : D) : setfO attT (.obj 2 (["entries", "landings"] : List Str) [d0, d1]) .root "landings" y .sh = some (.obj 2 (["entries", "landings"] : List Str) [d0, y], .root) := by kernel_rfl
theorem so_2_landings (d0 d1 : D) (y : D) : setfO attT (.obj 2 (["entries", "landings"] : List Str) [d0, d1]) .root "landings" y .root = some (.obj 2 (["entries", "landings"] : List Str) [d0, y], .node [.sh, .root]) := by kernel_rfl
theorem pn_2_landings (d0 y : D) (o0 oy : O) : setfO attT (.obj 2 (["entries"] : List Str) [d0]) (.node [o0]) "landings" y oy = some (.obj 2 (["entries", "landings"] : List Str) [d0, y], .node [o0, oy]) := by kernel_rfl
theorem pr_2_landings (d0 y : D) : setfO attT (.obj 2 (["entries"] : List Str) [d0]) .root "landings" y .sh = some (.obj 2 (["entries", "landings"] : List Str) [d0, y], .root) := by kernel_rfl
theorem po_2_landings (d0 y : D) : setfO attT (.obj 2 (["entries"] : List Str) [d0]) .root "landings" y .root = some (.obj 2 (["entries", "landings"] : List Str) [d0, y], .node [.sh, .root]) := by kernel_rfl
local macro_rules
  | `(tactic| simp! only [$xs,*]) => `(tactic| repeat' (first | simp (maxSteps := 1000000) (disch := first | omega | assumption | decide +kernel | (simp only [List.length_cons, List.length_nil, List.length_append, List.length_map, List.length_take, List.length_drop, List.length_replicate]; omega)) only [↓r_v, ↓r_hold, ↓r_kN, ↓r_kB, ↓r_kI, ↓r_kS, ↓r_g, ↓r_bor, ↓r_rd, ↓r_bin, ↓r_un, ↓r_bnot, ↓r_band, ↓r_bor2, ↓r_cmp, ↓r_chain, ↓r_ife, ↓rs_nilE, ↓rs_consE, ↓ra_nilE, ↓ra_consE, ↓ra_lateE, ↓r0_nilE, ↓r0_consE, ↓r_lst, ↓r_tup, ↓r_dic0, ↓r_ix, ↓r_sl00, ↓r_sl10, ↓r_sl01, ↓r_sl11, ↓r_fld, ↓r_bi, ↓r_bm, ↓r_kget, ↓r_isi, ↓r_lc0, ↓r_lc1, ll_nil, ll_cons0, ll_cons1, ↓r_lcX0, lx_nil, lx_cons0, wLX_ok, wLX_exc, f_nil, f_cons, ↓rt_eE, ↓rt_andE, ↓rt_orE, ↓rt_notE, ↓rt_borE, ↓ri_eE, ↓ri_rng1E, ↓ri_rng2E, ↓ri_zipE, ↓ri_enumE, ↓ri_enumTE, wTup_tup, ↓r_call0, ↓r_callB, ↓r_callD, ↓r_mk0, ↓r_mkD, dflt_0, dflt_N, ↓r_mth0, ↓r_mthI0, ↓r_mi0, ↓r_mut, ↓r_mutR, ↓r_mutT, ↓r_mutL, ↓r_shr, ↓r_borK, ↓r_dicC, wLn_nil, wLn_cons, wEnv_nil, wEnv_no, ↓wEnv_yes, wHl_sh, wHl_lR, wHl_dR, ↓wHl_lN, wHls_nil, ↓wHls_cons, wLf_sh, wLf_lR, wLf_tR, wLf_dR, wLf_oR, ↓wLf_lN, ↓wLf_tN, ↓wLf_oN, ↓wLf_of, wLfs_nil, ↓wLfs_cons, wKp_non, wKp_bl, wKp_int, wKp_str, wKp_tup, wKp_obj, ↓wKp_of, ↓wKps_of, wKps_nil, ↓wKps_cons, wZ_l, wZ_t,  ↓r_rdF, ↓s_nil, ↓s_cons, ↓s_asg, ↓s_unp, ↓s_ex, ↓s_ite, ↓s_for, ↓s_forN, ↓s_forH, ↓s_forD, ↓s_whl, wD_dic, noX_nx, at_fuel, ↓s_ret, ↓s_retN, ↓s_rais, ↓s_brk, ↓s_cont, ↓s_pass, ↓s_try, ↓h_nil, ↓h_0, ↓h_1, ↓s_asgX, ↓s_asgX2, ↓s_asgXF, ↓s_raisF, ↓s_seti, ↓s_setd, ↓s_setf, ↓wF_forBody, ↓wLt_0, ↓wLt_s, wRep_0, wRep_s, ↓wIn_nil, ↓wIn_cons, ↓wIn_cons0, wO_some, wO2_some, wB_true, wGd_true, wGd_of, wIf_true, wIf_false, wIf_t, wIf_f, wIf_not, wIf_and, wIf_or, wIf_ne, ↓wX_some, ↓wX_sh, ↓wG_0, ↓wG_s, ↓wNo_0, ↓wNo_s, ↓wS_0, ↓wS_s, ↓wSh_nil, ↓wSh_cons, wMk_nil, wMk_sh, wMk_root, wMk_node, ↓wLe_nil, ↓wLe_cons, wBl_bl, wInt_int, wStr_str, wLst_lst, wFlat_non, wFlat_bl, wFlat_int, wFlat_str, ↓wWp_nil, ↓wWp_cons, wLL_ok, ↓wE_ok, wR_ok0, wR_exc0, wR_ok1, wR_exc1, ↓wTg_1, wTg_t, wTg_l, ↓s_unpO, wUn_n, wUn_sh, wUn_root, ↓wTo_nil, ↓wTo_cons, ↓wTs_nil, ↓wTs_cons, wAt_root, ↓wFin_nil, ↓wFin_1, wF_nx, wF_rt, wF_exc, ↓r_borL, ↓r_isi2, wOwn_I, wOwn_N, wOwn_B, wOwn_S, wOwn_tR, wOwn_lR, wOwn_of, wFls_nil, wFls_cons, wFls_int, wFls_of, isk2, wBk_nil, wBk_n, ↓wBk_s, wR_okN, wR_okS, wR_excN, wR_excS, ↓wFin_2, wIn_ct, wIn_cf, ↓r_mthB, ↓r_mthIB, shX_some, shX_none, qbtI, qbmI, qvAdd, qvSub, qvMod, qvDiv, qvAnd, qvOr, qvXor, qvNeg, qvInv, qvLt, qvLe, qvGt, qvGe, qvEqI, qvNeI, qvEqS, qvNeS, qvIs, qvIsB, qvIsNB, qbN, qbB, qbO, qbI, qbS, qbL, qbT, qvIsN, qnN, qnB, qnI, qnS, qnL, qnT, qnD, qnO, qtN, qtB, qttI, qtL, qttT, qlL, qlT, qlF, qlD, qliL, qliT, qliF, qtuL, qtuT, qdiD, qiI, qiB, qmxI, qmnI, qsqL, qsqT, qsqF, qixL0, qixL1, qixL2, qixL3, qixL4, qixT0, qixT1, qixT2, qixT3, qixT4, qslT1, qslT2, qslL1, qmuClr, qmuClD, qtyL1, qtyL2, qtyL3, qtyL4, qtyL5, qgaN, qsaN, qkeI, qkeS, qallT, List.cons_append, List.nil_append, List.length_cons, List.length_nil, List.length_map, List.length_replicate, if_true, if_false, and_true, true_and, and_self, Bool.false_eq_true, decide_true, decide_false, Nat.reduceSub, Nat.reduceAdd, Bool.not_true, Bool.not_false, Bool.or_true, Bool.or_false, Bool.true_or, Bool.false_or, at_pfn, at_att, at_isk, at_gl, at_sub, at_tb, kdOf, iskT, glT, fl_2_entries, rn_2_entries, rr_2_entries, ga_2_entries, sa_2_entries, sn_2_entries, sr_2_entries, so_2_entries, pn_2_entries, pr_2_entries, po_2_entries, fl_2_landings, rn_2_landings, rr_2_landings, ga_2_landings, sa_2_landings, sn_2_landings, sr_2_landings, so_2_landings, pn_2_landings, pr_2_landings, po_2_landings, $xs,*] | (refine wIf_dec ?_ ?_ <;> intro _) | (refine wIf_b ?_ ?_ <;> intro _)))

local macro_rules
  | `(tactic| simp! [$xs,*]) => `(tactic| repeat' (first | simp (maxSteps := 1000000) (disch := first | omega | assumption | decide +kernel | (simp only [List.length_cons, List.length_nil, List.length_append, List.length_map, List.length_take, List.length_drop, List.length_replicate]; omega)) only [↓r_v, ↓r_hold, ↓r_kN, ↓r_kB, ↓r_kI, ↓r_kS, ↓r_g, ↓r_bor, ↓r_rd, ↓r_bin, ↓r_un, ↓r_bnot, ↓r_band, ↓r_bor2, ↓r_cmp, ↓r_chain, ↓r_ife, ↓rs_nilE, ↓rs_consE, ↓ra_nilE, ↓ra_consE, ↓ra_lateE, ↓r0_nilE, ↓r0_consE, ↓r_lst, ↓r_tup, ↓r_dic0, ↓r_ix, ↓r_sl00, ↓r_sl10, ↓r_sl01, ↓r_sl11, ↓r_fld, ↓r_bi, ↓r_bm, ↓r_kget, ↓r_isi, ↓r_lc0, ↓r_lc1, ll_nil, ll_cons0, ll_cons1, ↓r_lcX0, lx_nil, lx_cons0, wLX_ok, wLX_exc, f_nil, f_cons, ↓rt_eE, ↓rt_andE, ↓rt_orE, ↓rt_notE, ↓rt_borE, ↓ri_eE, ↓ri_rng1E, ↓ri_rng2E, ↓ri_zipE, ↓ri_enumE, ↓ri_enumTE, wTup_tup, ↓r_call0, ↓r_callB, ↓r_callD, ↓r_mk0, ↓r_mkD, dflt_0, dflt_N, ↓r_mth0, ↓r_mthI0, ↓r_mi0, ↓r_mut, ↓r_mutR, ↓r_mutT, ↓r_mutL, ↓r_shr, ↓r_borK, ↓r_dicC, wLn_nil, wLn_cons, wEnv_nil, wEnv_no, ↓wEnv_yes, wHl_sh, wHl_lR, wHl_dR, ↓wHl_lN, wHls_nil, ↓wHls_cons, wLf_sh, wLf_lR, wLf_tR, wLf_dR, wLf_oR, ↓wLf_lN, ↓wLf_tN, ↓wLf_oN, ↓wLf_of, wLfs_nil, ↓wLfs_cons, wKp_non, wKp_bl, wKp_int, wKp_str, wKp_tup, wKp_obj, ↓wKp_of, ↓wKps_of, wKps_nil, ↓wKps_cons, wZ_l, wZ_t,  ↓r_rdF, ↓s_nil, ↓s_cons, ↓s_asg, ↓s_unp, ↓s_ex, ↓s_ite, ↓s_for, ↓s_forN, ↓s_forH, ↓s_forD, ↓s_whl, wD_dic, noX_nx, at_fuel, ↓s_ret, ↓s_retN, ↓s_rais, ↓s_brk, ↓s_cont, ↓s_pass, ↓s_try, ↓h_nil, ↓h_0, ↓h_1, ↓s_asgX, ↓s_asgX2, ↓s_asgXF, ↓s_raisF, ↓s_seti, ↓s_setd, ↓s_setf, ↓wF_forBody, ↓wLt_0, ↓wLt_s, wRep_0, wRep_s, ↓wIn_nil, ↓wIn_cons, ↓wIn_cons0, wO_some, wO2_some, wB_true, wGd_true, wGd_of, wIf_true, wIf_false, wIf_t, wIf_f, wIf_not, wIf_and, wIf_or, wIf_ne, ↓wX_some, ↓wX_sh, ↓wG_0, ↓wG_s, ↓wNo_0, ↓wNo_s, ↓wS_0, ↓wS_s, ↓wSh_nil, ↓wSh_cons, wMk_nil, wMk_sh, wMk_root, wMk_node, ↓wLe_nil, ↓wLe_cons, wBl_bl, wInt_int, wStr_str, wLst_lst, wFlat_non, wFlat_bl, wFlat_int, wFlat_str, ↓wWp_nil, ↓wWp_cons, wLL_ok, ↓wE_ok, wR_ok0, wR_exc0, wR_ok1, wR_exc1, ↓wTg_1, wTg_t, wTg_l, ↓s_unpO, wUn_n, wUn_sh, wUn_root, ↓wTo_nil, ↓wTo_cons, ↓wTs_nil, ↓wTs_cons, wAt_root, ↓wFin_nil, ↓wFin_1, wF_nx, wF_rt, wF_exc, ↓r_borL, ↓r_isi2, wOwn_I, wOwn_N, wOwn_B, wOwn_S, wOwn_tR, wOwn_lR, wOwn_of, wFls_nil, wFls_cons, wFls_int, wFls_of, isk2, wBk_nil, wBk_n, ↓wBk_s, wR_okN, wR_okS, wR_excN, wR_excS, ↓wFin_2, wIn_ct, wIn_cf, ↓r_mthB, ↓r_mthIB, shX_some, shX_none, qbtI, qbmI, qvAdd, qvSub, qvMod, qvDiv, qvAnd, qvOr, qvXor, qvNeg, qvInv, qvLt, qvLe, qvGt, qvGe, qvEqI, qvNeI, qvEqS, qvNeS, qvIs, qvIsB, qvIsNB, qbN, qbB, qbO, qbI, qbS, qbL, qbT, qvIsN, qnN, qnB, qnI, qnS, qnL, qnT, qnD, qnO, qtN, qtB, qttI, qtL, qttT, qlL, qlT, qlF, qlD, qliL, qliT, qliF, qtuL, qtuT, qdiD, qiI, qiB, qmxI, qmnI, qsqL, qsqT, qsqF, qixL0, qixL1, qixL2, qixL3, qixL4, qixT0, qixT1, qixT2, qixT3, qixT4, qslT1, qslT2, qslL1, qmuClr, qmuClD, qtyL1, qtyL2, qtyL3, qtyL4, qtyL5, qgaN, qsaN, qkeI, qkeS, qallT, List.cons_append, List.nil_append, List.length_cons, List.length_nil, List.length_map, List.length_replicate, if_true, if_false, and_true, true_and, and_self, Bool.false_eq_true, decide_true, decide_false, Nat.reduceSub, Nat.reduceAdd, Bool.not_true, Bool.not_false, Bool.or_true, Bool.or_false, Bool.true_or, Bool.false_or, at_pfn, at_att, at_isk, at_gl, at_sub, at_tb, glT, fl_2_entries, rn_2_entries, rr_2_entries, ga_2_entries, sa_2_entries, sn_2_entries, sr_2_entries, so_2_entries, pn_2_entries, pr_2_entries, po_2_entries, fl_2_landings, rn_2_landings, rr_2_landings, ga_2_landings, sa_2_landings, sn_2_landings, sr_2_landings, so_2_landings, pn_2_landings, pr_2_landings, po_2_landings, $xs,*] | (refine wIf_dec ?_ ?_ <;> intro _) | (refine wIf_b ?_ ?_ <;> intro _)))


/-! ### the walk back: what both sides tell -/
theorem gBX : glT 0 = .int 8 := rfl
theorem gMO : glT 1 = .int 5000 := rfl
structure En where
  h : Int
  s0 : Int
  s1 : Int
  s2 : Int
  s3 : Int
def En.d (e : En) : D := .tup [.int e.h, .int e.s0, .tup [.int e.s1, .int e.s2, .int e.s3]]
def enD : Option En → D
  | none => .non
  | some e => e.d
def oD : Option Int → D
  | none => .non
  | some i => .int i
def asO : Option D → Option Int
  | some (.int v) => some v
  | _ => none
/-- a set's lowest place -/
def lowP (s : Int) : Int := ((Builtin.Int.intBits (Builtin.bitAnd s (-s)) : Nat) : Int) - 1
theorem lowP_ge (s : Int) : -1 ≤ lowP s := by unfold lowP; omega
def valP (s h : Int) (bs : List (Option Int)) (pl : List Int) (len : Int) : Option Int :=
  if s < 1 then none else if lowP s < 8 then asO (ixD (.lst (bs.map oD)) (.int (lowP s))) else if h ≤ lowP s - 8 then none else asO (ixD (.lst (pl.map .int)) (.int (len - h + lowP s - 8)))
theorem ix_box {bs : List (Option Int)} (hb : bs.length = 8) {i : Int} (h0 : -1 ≤ i) (h1 : i < 8) : ∃ o, ixD (.lst (bs.map oD)) (.int i) = some (oD o) := by
  show ∃ o, atI (bs.map oD) i = some (oD o)
  unfold atI ixN
  rw [List.length_map, hb]
  by_cases hn : 0 ≤ i
  · refine ⟨bs[i.toNat]'(by omega), ?_⟩
    have hb2 : bs[i.toNat]? = some (bs[i.toNat]'(by omega)) := List.getElem?_eq_getElem (by omega)
    simp [hn, h1, hb2]
  · have e : i = -1 := by omega
    subst e
    refine ⟨bs[7]'(by omega), ?_⟩
    have hb2 : bs[7]? = some (bs[7]'(by omega)) := List.getElem?_eq_getElem (by omega)
    simp [hb2]
theorem ix_pile {pl : List Int} {i : Int} (h0 : 0 ≤ i) (h1 : i < pl.length) : ∃ v, ixD (.lst (pl.map .int)) (.int i) = some (.int v) := ⟨_, atI_z h0 h1⟩
abbrev exAst (row : Int) : Exn := ⟨1, ["row"], [.int row]⟩
def valR (row : Int) : Option Int → Rt
  | some v => .ok (.int v) .sh []
  | none => .exc (exAst row) []
theorem flying (n : Nat) (s row : Int) (e : En) (bs : List (Option Int)) (hb : bs.length = 8) (pl : List Int) (len : Int) (h0 : 0 ≤ e.h) (h1 : e.h ≤ len) (h2 : len ≤ pl.length) : tab.fnAt (n + 2) 2 [(.int s, .sh), (.int row, .sh), (e.d, .sh), (.lst (bs.map oD), .sh), (.lst (pl.map .int), .sh), (.int len, .sh)] = valR row (valP s e.h bs pl len) := by
  have lg := lowP_ge s
  unfold valP
  by_cases i0 : s < 1
  · rw [if_pos i0]
    obtain ⟨h, s0, s1, s2, s3⟩ := e
    simp only [En.d, valR]
    generalize pl.map D.int = PD at *
    generalize bs.map oD = BD at *
    refine wFn (n := _) (fun r => r = .exc (exAst row) []) (show tab.defs 2 = _ from rfl) rfl ?_
    simp! only [gBX, i0]
  · rw [if_neg i0]
    have lw : ((Builtin.Int.intBits (Builtin.bitAnd s (-s)) : Nat) : Int) - 1 = lowP s := rfl
    generalize lowP s = lo at *
    by_cases i1 : lo < 8
    · rw [if_pos i1]
      obtain ⟨o, ix⟩ := ix_box hb lg i1
      rw [ix]
      obtain ⟨h, s0, s1, s2, s3⟩ := e
      simp only [En.d]
      generalize pl.map D.int = PD at *
      generalize bs.map oD = BD at *
      cases o with
      | none =>
        simp only [oD, asO, valR] at ix ⊢
        refine wFn (n := _) (fun r => r = .exc (exAst row) []) (show tab.defs 2 = _ from rfl) rfl ?_
        simp! only [gBX, i0, i1, lw, ix, isNon_non]
      | some v =>
        simp only [oD, asO, valR] at ix ⊢
        refine wFn (n := _) (fun r => r = .ok (.int v) .sh []) (show tab.defs 2 = _ from rfl) rfl ?_
        simp! only [gBX, i0, i1, lw, ix, isNon_int]
    · rw [if_neg i1]
      by_cases i2 : e.h ≤ lo - 8
      · rw [if_pos i2]
        obtain ⟨h, s0, s1, s2, s3⟩ := e
        simp only [En.d, valR] at i2 ⊢
        generalize pl.map D.int = PD at *
        generalize bs.map oD = BD at *
        refine wFn (n := _) (fun r => r = .exc (exAst row) []) (show tab.defs 2 = _ from rfl) rfl ?_
        simp! only [gBX, i0, i1, i2, lw]
      · rw [if_neg i2]
        obtain ⟨v, ix⟩ := ix_pile (pl := pl) (i := len - e.h + lo - 8) (by omega) (by omega)
        rw [ix]
        obtain ⟨h, s0, s1, s2, s3⟩ := e
        simp only [En.d, asO, valR] at i2 ix ⊢
        generalize pl.map D.int = PD at *
        generalize bs.map oD = BD at *
        refine wFn (n := _) (fun r => r = .ok (.int v) .sh []) (show tab.defs 2 = _ from rfl) rfl ?_
        simp! only [gBX, i0, i1, i2, lw, ix]
/-- what the law's own reader tells of a set -/
theorem flval (n : Nat) (s : Int) (e : En) (bs : List (Option Int)) (hb : bs.length = 8) (pl : List Int) (len : Int) (h0 : 0 ≤ e.h) (h1 : e.h ≤ len) (h2 : len ≤ pl.length) : tab.fnAt (n + 2) 9 [(.int s, .sh), (e.d, .sh), (.lst (bs.map oD), .sh), (.lst (pl.map .int), .sh), (.int len, .sh)] = .ok (oD (valP s e.h bs pl len)) .sh [] := by
  have lg := lowP_ge s
  unfold valP
  by_cases i0 : s < 1
  · rw [if_pos i0]
    obtain ⟨h, s0, s1, s2, s3⟩ := e
    simp only [En.d, oD]
    generalize pl.map D.int = PD at *
    generalize bs.map oD = BD at *
    refine wFn (n := _) (fun r => r = .ok .non .sh []) (show tab.defs 9 = _ from rfl) rfl ?_
    simp! only [i0]
  · rw [if_neg i0]
    have lw : ((Builtin.Int.intBits (Builtin.bitAnd s (-s)) : Nat) : Int) - 1 = lowP s := rfl
    generalize lowP s = lo at *
    by_cases i1 : lo < 8
    · rw [if_pos i1]
      obtain ⟨o, ix⟩ := ix_box hb lg i1
      rw [ix]
      have ea : oD (asO (some (oD o))) = oD o := by cases o <;> rfl
      rw [ea]
      obtain ⟨h, s0, s1, s2, s3⟩ := e
      simp only [En.d]
      generalize pl.map D.int = PD at *
      generalize bs.map oD = BD at *
      generalize oD o = od at *
      refine wFn (n := _) (fun r => r = .ok od .sh []) (show tab.defs 9 = _ from rfl) rfl ?_
      simp! only [i0, i1, lw, ix]
    · rw [if_neg i1]
      by_cases i2 : e.h ≤ lo - 8
      · rw [if_pos i2]
        obtain ⟨h, s0, s1, s2, s3⟩ := e
        simp only [En.d, oD] at i2 ⊢
        generalize pl.map D.int = PD at *
        generalize bs.map oD = BD at *
        refine wFn (n := _) (fun r => r = .ok .non .sh []) (show tab.defs 9 = _ from rfl) rfl ?_
        simp! only [i0, i1, i2, lw]
      · rw [if_neg i2]
        obtain ⟨v, ix⟩ := ix_pile (pl := pl) (i := len - e.h + lo - 8) (by omega) (by omega)
        rw [ix]
        obtain ⟨h, s0, s1, s2, s3⟩ := e
        simp only [En.d, asO, oD] at i2 ix ⊢
        generalize pl.map D.int = PD at *
        generalize bs.map oD = BD at *
        refine wFn (n := _) (fun r => r = .ok (.int v) .sh []) (show tab.defs 9 = _ from rfl) rfl ?_
        simp! only [i0, i1, i2, lw, ix]

/-! ### one caller -/
structure Cl where
  c : Int
  k1 : Int
  k2 : Int
  k3 : Int
  len : Int
def Cl.d (x : Cl) : D := .tup [.int x.c, .tup [.int x.k1, .int x.k2, .int x.k3], .int x.len]
def Cl.mask (x : Cl) : List (Option Int) := [none, none, none, none, some x.k1, some x.k2, some x.k3, none]
def four (l : Int) : Option Int → Option Int → Option Int → Option Int → Option Cl
  | some v0, some v1, some v2, some v3 => some ⟨v0, v1, v2, v3, l⟩
  | _, _, _, _ => none
theorem four_some {l : Int} {w0 w1 w2 w3 : Option Int} {c : Cl} (h : four l w0 w1 w2 w3 = some c) : c.len = l := by
  cases w0 <;> cases w1 <;> cases w2 <;> cases w3 <;> first | (cases h; done) | (cases h; rfl)
def upE (e : En) (bs : List (Option Int)) (pl : List Int) (len : Int) : Option Cl := if e.h < 0 ∨ len < e.h then none else four (len - e.h) (valP e.s0 e.h bs pl len) (valP e.s1 e.h bs pl len) (valP e.s2 e.h bs pl len) (valP e.s3 e.h bs pl len)
def upA (ED : List (Option En)) (row : Int) (bs : List (Option Int)) (pl : List Int) (len : Int) : Option Cl := if row < 0 ∨ (ED.length : Int) ≤ row then none else match ED[row.toNat]? with
  | some (some e) => upE e bs pl len
  | _ => none
theorem upE_len {e : En} {bs : List (Option Int)} {pl : List Int} {len : Int} {c : Cl} (h : upE e bs pl len = some c) : 0 ≤ c.len ∧ c.len ≤ len := by
  unfold upE at h
  split at h
  · cases h
  · have := four_some h
    omega
theorem upA_len {ED : List (Option En)} {row : Int} {bs : List (Option Int)} {pl : List Int} {len : Int} {c : Cl} (h : upA ED row bs pl len = some c) : 0 ≤ c.len ∧ c.len ≤ len := by
  unfold upA at h
  split at h
  · cases h
  · split at h
    · exact upE_len h
    · cases h
abbrev tbD (ED : List (Option En)) (LD : D) : D := .obj 2 ["entries", "landings"] [.lst (ED.map enD), LD]
def upR (row : Int) : Option Cl → Rt
  | some c => .ok c.d (.node [.sh, .root, .sh]) []
  | none => .exc (exAst row) []
theorem ixE {ED : List (Option En)} {row : Int} (h0 : ¬ row < 0) (h1 : ¬ (ED.length : Int) ≤ row) : ∃ oe, ED[row.toNat]? = some oe ∧ ixD (.lst (ED.map enD)) (.int row) = some (enD oe) := by
  have hl : row.toNat < ED.length := by omega
  refine ⟨ED[row.toNat], List.getElem?_eq_getElem hl, ?_⟩
  show atI (ED.map enD) row = _
  unfold atI ixN
  rw [List.length_map]
  have a0 : 0 ≤ row := by omega
  have a1 : row < (ED.length : Int) := by omega
  simp [a0, a1, List.getElem?_eq_getElem hl]
theorem foneup (n : Nat) (ED : List (Option En)) (LD : D) (row : Int) (bs : List (Option Int)) (hb : bs.length = 8) (pl : List Int) (len : Int) (h2 : len ≤ pl.length) :
    tab.fnAt (n + 3) 3 [(tbD ED LD, .sh), (.int row, .sh), (.lst (bs.map oD), .sh), (.lst (pl.map .int), .sh), (.int len, .sh)] = upR row (upA ED row bs pl len) := by
  have eL : ((ED.map enD).length : Int) = (ED.length : Int) := by rw [List.length_map]
  unfold upA
  by_cases i0 : row < 0
  · rw [if_pos (.inl i0)]
    simp only [tbD, upR]
    generalize ED.map enD = EDD at *
    generalize pl.map D.int = PD at *
    generalize bs.map oD = BD at *
    refine wFn (n := _) (fun r => r = .exc (exAst row) []) (show tab.defs 3 = _ from rfl) rfl ?_
    simp! only [i0]
  · by_cases i1 : (ED.length : Int) ≤ row
    · rw [if_pos (.inr i1)]
      simp only [tbD, upR]
      rw [← eL] at i1
      generalize ED.map enD = EDD at *
      generalize pl.map D.int = PD at *
      generalize bs.map oD = BD at *
      refine wFn (n := _) (fun r => r = .exc (exAst row) []) (show tab.defs 3 = _ from rfl) rfl ?_
      simp! only [i0, i1]
    · rw [if_neg (by intro h; rcases h with h | h; exact i0 h; exact i1 h)]
      obtain ⟨oe, e1, ix⟩ := ixE i0 i1
      rw [e1]
      rw [← eL] at i1
      cases oe with
      | none =>
        simp only [tbD, upR, enD] at ix ⊢
        generalize ED.map enD = EDD at *
        generalize pl.map D.int = PD at *
        generalize bs.map oD = BD at *
        refine wFn (n := _) (fun r => r = .exc (exAst row) []) (show tab.defs 3 = _ from rfl) rfl ?_
        simp! only [i0, i1, ix, isNon_non]
      | some e =>
        simp only [enD] at ix ⊢
        unfold upE
        by_cases i2 : e.h < 0
        · rw [if_pos (.inl i2)]
          obtain ⟨h, s0, s1, s2, s3⟩ := e
          simp only [tbD, upR, En.d] at i2 ix ⊢
          generalize ED.map enD = EDD at *
          generalize pl.map D.int = PD at *
          generalize bs.map oD = BD at *
          refine wFn (n := _) (fun r => r = .exc (exAst row) []) (show tab.defs 3 = _ from rfl) rfl ?_
          simp! only [i0, i1, i2, ix, isNon_tup]
        · by_cases i3 : len < e.h
          · rw [if_pos (.inr i3)]
            obtain ⟨h, s0, s1, s2, s3⟩ := e
            simp only [tbD, upR, En.d] at i2 i3 ix ⊢
            generalize ED.map enD = EDD at *
            generalize pl.map D.int = PD at *
            generalize bs.map oD = BD at *
            refine wFn (n := _) (fun r => r = .exc (exAst row) []) (show tab.defs 3 = _ from rfl) rfl ?_
            simp! only [i0, i1, i2, i3, ix, isNon_tup]
          · rw [if_neg (by intro h; rcases h with h | h; exact i2 h; exact i3 h)]
            have f0 := flying n e.s0 row e bs hb pl len (by omega) (by omega) h2
            have f1 := flying n e.s1 row e bs hb pl len (by omega) (by omega) h2
            have f2 := flying n e.s2 row e bs hb pl len (by omega) (by omega) h2
            have f3 := flying n e.s3 row e bs hb pl len (by omega) (by omega) h2
            generalize valP e.s0 e.h bs pl len = w0 at *
            generalize valP e.s1 e.h bs pl len = w1 at *
            generalize valP e.s2 e.h bs pl len = w2 at *
            generalize valP e.s3 e.h bs pl len = w3 at *
            obtain ⟨h, s0, s1, s2, s3⟩ := e
            simp only [tbD, En.d] at i2 i3 ix f0 f1 f2 f3 ⊢
            generalize ED.map enD = EDD at *
            generalize pl.map D.int = PD at *
            generalize bs.map oD = BD at *
            clear h2 e1 hb eL
            cases w0 with
            | none =>
              simp only [upR, valR, four] at f0 ⊢
              refine wFn (n := _) (fun r => r = .exc (exAst row) []) (show tab.defs 3 = _ from rfl) rfl ?_
              simp! only [i0, i1, i2, i3, ix, isNon_tup, f0, wR_exc0]
            | some v0 =>
              cases w1 with
              | none =>
                simp only [upR, valR, four] at f0 f1 ⊢
                refine wFn (n := _) (fun r => r = .exc (exAst row) []) (show tab.defs 3 = _ from rfl) rfl ?_
                simp! only [i0, i1, i2, i3, ix, isNon_tup, f0, f1, ce_3_0]
              | some v1 =>
                cases w2 with
                | none =>
                  simp only [upR, valR, four] at f0 f1 f2 ⊢
                  refine wFn (n := _) (fun r => r = .exc (exAst row) []) (show tab.defs 3 = _ from rfl) rfl ?_
                  simp! only [i0, i1, i2, i3, ix, isNon_tup, f0, f1, f2, ce_3_0]
                | some v2 =>
                  cases w3 with
                  | none =>
                    simp only [upR, valR, four] at f0 f1 f2 f3 ⊢
                    refine wFn (n := _) (fun r => r = .exc (exAst row) []) (show tab.defs 3 = _ from rfl) rfl ?_
                    simp! only [i0, i1, i2, i3, ix, isNon_tup, f0, f1, f2, f3, ce_3_0]
                  | some v3 =>
                    simp only [upR, valR, four, Cl.d] at f0 f1 f2 f3 ⊢
                    refine wFn (n := _) (fun r => r = .ok (.tup [.int v0, .tup [.int v1, .int v2, .int v3], .int (len - h)]) (.node [.sh, .root, .sh]) []) (show tab.defs 3 = _ from rfl) rfl ?_
                    simp! only [i0, i1, i2, i3, ix, isNon_tup, f0, f1, f2, f3, ce_3_0]

/-! ### the law's own reader -/
def clD : Option Cl → D
  | some c => c.d
  | none => .non
theorem any_non : ∀ L : List (Option Int), inL .non (L.map oD) = some (L.any Option.isNone)
  | [] => by simp [inL, toPy, toPys, PyData.depth]
  | o :: L => by
    have ih := any_non L
    unfold inL at ih ⊢
    cases hp : toPys (L.map oD) with
    | none => rw [hp] at ih; simp [toPy] at ih
    | some ps =>
      rw [hp] at ih
      cases o with
      | none =>
        simp only [List.map_cons, oD, toPys, toPy, hp, PyData.depth] at ih ⊢
        simp [PyData.eqv]
      | some v =>
        simp only [List.map_cons, oD, toPys, toPy, hp, PyData.depth] at ih ⊢
        simp only [List.any_cons, PyData.eqv, Bool.false_or, Option.isNone_some]
        exact ih
theorem in4 (w0 w1 w2 w3 : Option Int) : cmpD .In .non (.lst [oD w0, oD w1, oD w2, oD w3]) = some ([w0, w1, w2, w3].any Option.isNone) := any_non [w0, w1, w2, w3]
theorem ap0 (d : D) : muD .append (.lst []) [d] = some (.non, .lst [d]) := (rfl)
theorem ap1 (a d : D) : muD .append (.lst [a]) [d] = some (.non, .lst [a, d]) := (rfl)
theorem ap2 (a b d : D) : muD .append (.lst [a, b]) [d] = some (.non, .lst [a, b, d]) := (rfl)
theorem ap3 (a b c d : D) : muD .append (.lst [a, b, c]) [d] = some (.non, .lst [a, b, c, d]) := (rfl)
theorem flup (n : Nat) (oe : Option En) (bs : List (Option Int)) (hb : bs.length = 8) (pl : List Int) (len : Int) (h2 : len ≤ pl.length) :
    ∃ o, tab.fnAt (n + 3) 10 [(enD oe, .sh), (.lst (bs.map oD), .sh), (.lst (pl.map .int), .sh), (.int len, .sh)] = .ok (clD (oe.bind fun e => upE e bs pl len)) o [] := by
  cases oe with
  | none =>
    refine ⟨.sh, ?_⟩
    simp only [enD, Option.bind_none, clD]
    generalize pl.map D.int = PD at *
    generalize bs.map oD = BD at *
    refine wFn (n := _) (fun r => r = .ok .non .sh []) (show tab.defs 10 = _ from rfl) rfl ?_
    simp! only [isNon_non]
  | some e =>
    simp only [enD, Option.bind_some]
    unfold upE
    by_cases i2 : e.h < 0
    · refine ⟨.sh, ?_⟩
      rw [if_pos (.inl i2)]
      obtain ⟨h, s0, s1, s2, s3⟩ := e
      simp only [En.d, clD] at i2 ⊢
      generalize pl.map D.int = PD at *
      generalize bs.map oD = BD at *
      refine wFn (n := _) (fun r => r = .ok .non .sh []) (show tab.defs 10 = _ from rfl) rfl ?_
      simp! only [i2, isNon_tup]
    · by_cases i3 : len < e.h
      · refine ⟨.sh, ?_⟩
        rw [if_pos (.inr i3)]
        obtain ⟨h, s0, s1, s2, s3⟩ := e
        simp only [En.d, clD] at i2 i3 ⊢
        generalize pl.map D.int = PD at *
        generalize bs.map oD = BD at *
        refine wFn (n := _) (fun r => r = .ok .non .sh []) (show tab.defs 10 = _ from rfl) rfl ?_
        simp! only [i2, i3, isNon_tup]
      · rw [if_neg (by intro h; rcases h with h | h; exact i2 h; exact i3 h)]
        have f0 := flval n e.s0 e bs hb pl len (by omega) (by omega) h2
        have f1 := flval n e.s1 e bs hb pl len (by omega) (by omega) h2
        have f2 := flval n e.s2 e bs hb pl len (by omega) (by omega) h2
        have f3 := flval n e.s3 e bs hb pl len (by omega) (by omega) h2
        generalize valP e.s0 e.h bs pl len = w0 at *
        generalize valP e.s1 e.h bs pl len = w1 at *
        generalize valP e.s2 e.h bs pl len = w2 at *
        generalize valP e.s3 e.h bs pl len = w3 at *
        have i4 := in4 w0 w1 w2 w3
        obtain ⟨h, s0, s1, s2, s3⟩ := e
        simp only [En.d] at i2 i3 f0 f1 f2 f3 ⊢
        generalize pl.map D.int = PD at *
        generalize bs.map oD = BD at *
        clear h2 hb
        cases hw : [w0, w1, w2, w3].any Option.isNone with
        | true =>
          rw [hw] at i4
          have e0 : four (len - h) w0 w1 w2 w3 = none := by
            cases w0 <;> cases w1 <;> cases w2 <;> cases w3 <;> first | rfl | (cases hw)
          rw [e0]
          refine ⟨.sh, ?_⟩
          simp only [clD]
          generalize oD w0 = d0 at *
          generalize oD w1 = d1 at *
          generalize oD w2 = d2 at *
          generalize oD w3 = d3 at *
          refine wFn (n := _) (fun r => r = .ok .non .sh []) (show tab.defs 10 = _ from rfl) rfl ?_
          simp! only [i2, i3, isNon_tup, f0, f1, f2, f3, bd_10_0, ap0, ap1, ap2, ap3, qtyL1, i4]
        | false =>
          rw [hw] at i4
          cases w0 with
          | none => cases hw
          | some v0 =>
            cases w1 with
            | none => cases hw
            | some v1 =>
              cases w2 with
              | none => cases hw
              | some v2 =>
                cases w3 with
                | none => cases hw
                | some v3 =>
                  refine ⟨.node [.sh, .root, .sh], ?_⟩
                  simp only [oD, clD, Cl.d, four] at f0 f1 f2 f3 i4 ⊢
                  refine wFn (n := _) (fun r => r = .ok (.tup [.int v0, .tup [.int v1, .int v2, .int v3], .int (len - h)]) (.node [.sh, .root, .sh]) []) (show tab.defs 10 = _ from rfl) rfl ?_
                  simp! only [i2, i3, isNon_tup, f0, f1, f2, f3, bd_10_0, ap0, ap1, ap2, ap3, qtyL1, i4]

/-! ### the walk -/
def walk (ED : List (Option En)) (pl : List Int) : Nat → Int → List (Option Int) → Int → Int ⊕ List Cl
  | 0, row, _, _ => if row = (ED.length : Int) then .inr [] else .inl row
  | k + 1, row, bs, len => if row = (ED.length : Int) then .inr [] else match upA ED row bs pl len with
    | none => .inl row
    | some c => match walk ED pl k c.c c.mask c.len with
      | .inr cs => .inr (c :: cs)
      | .inl r => .inl r
abbrev cT (n : Nat) : FEnv → Ev Bool := evT (tab.at (n + 2)) wt_4_0
abbrev cB (n : Nat) : FEnv → Fl := evSs (tab.at (n + 2)) bd_4_0
theorem wh_t {t : FEnv → Ev Bool} {b : FEnv → Fl} {k : Nat} {ρ ρ' : FEnv} (h : t ρ = .ok true ρ) (h2 : b ρ = .nx ρ') : whLoop t b (k + 1) ρ = whLoop t b k ρ' := by
  rw [whLoop, h]
  simp only [Ev.fl, if_true, h2]
theorem wh_f {t : FEnv → Ev Bool} {b : FEnv → Fl} {k : Nat} {ρ : FEnv} (h : t ρ = .ok false ρ) : whLoop t b (k + 1) ρ = .nx ρ := by
  rw [whLoop, h]
  simp [Ev.fl]
theorem wh_x {t : FEnv → Ev Bool} {b : FEnv → Fl} {k : Nat} {ρ ρ' : FEnv} {x : Exn} (h : t ρ = .ok true ρ) (h2 : b ρ = .exc x ρ') : whLoop t b (k + 1) ρ = .exc x ρ' := by
  rw [whLoop, h]
  simp only [Ev.fl, if_true, h2]
theorem wh_r {t : FEnv → Ev Bool} {b : FEnv → Fl} {k : Nat} {ρ ρ' : FEnv} {d : D} {o : O} (h : t ρ = .ok true ρ) (h2 : b ρ = .rt d o ρ') : whLoop t b (k + 1) ρ = .rt d o ρ' := by
  rw [whLoop, h]
  simp only [Ev.fl, if_true, h2]
theorem wT_eq {e : Ev Bool} {b : Bool} {ρ : FEnv} (h : wT e (fun z ρ' => z = b ∧ ρ' = ρ) fun _ _ => False) : e = .ok b ρ := by
  cases e with
  | ok z ρ' => obtain ⟨h1, h2⟩ := h; rw [h1, h2]
  | exc x ρ' => exact h.elim
  | stuck => exact h.elim
theorem wF_xeq {f : Fl} {x : Exn} (h : wF f (fun _ => False) (fun _ _ _ => False) (fun _ => False) (fun _ => False) fun y _ => y = x) : ∃ ρ', f = .exc x ρ' := by
  cases f with
  | exc y ρ' => exact ⟨ρ', by rw [show y = x from h]⟩
  | _ => exact h.elim
theorem wF_req {f : Fl} {d : D} {o : O} (h : wF f (fun _ => False) (fun d' o' _ => d' = d ∧ o' = o) (fun _ => False) (fun _ => False) fun _ _ => False) : ∃ ρ', f = .rt d o ρ' := by
  cases f with
  | rt d' o' ρ' => exact ⟨ρ', by rw [show d' = d from h.1, show o' = o from h.2]⟩
  | _ => exact h.elim
theorem ctest (n : Nat) (ED : List (Option En)) (LD : D) (r : Int) (x2 x3 x4 x5 x6 : Option DO) : cT n [some (tbD ED LD, .sh), some (.int r, .sh), x2, x3, x4, x5, x6] = .ok (!decide (r = (ED.length : Int))) [some (tbD ED LD, .sh), some (.int r, .sh), x2, x3, x4, x5, x6] := by
  refine wT_eq ?_
  have eL : ((ED.map enD).length : Int) = (ED.length : Int) := by rw [List.length_map]
  simp only [tbD, cT]
  rw [← eL]
  generalize ED.map enD = EDD at *
  simp! only [wt_4_0]
abbrev maskD (c : Cl) : List D := [.non, .non, .non, .non, .int c.k1, .int c.k2, .int c.k3, .non]
theorem mask_d (c : Cl) : c.mask.map oD = maskD c := (rfl)
theorem cturn_full (n : Nat) (ED : List (Option En)) (LD : D) (row : Int) (BD PD F : List D) (hF : F.length = 5000) (oB : O) (hB : oB = .sh ∨ oB = .root) (len : D) (x6 : Option DO) :
    ∃ ρ', cB n [some (tbD ED LD, .sh), some (.int row, .sh), some (.lst BD, oB), some (.lst PD, .sh), some (.lst F, .root), some (len, .sh), x6] = .exc (exAst row) ρ' := by
  have i0 : (F.length : Int) = 5000 := by omega
  refine wF_xeq ?_
  simp only [tbD, cB]
  generalize ED.map enD = EDD at *
  rcases hB with rfl | rfl
  · simp! only [bd_4_0, gMO, i0]
  · simp! only [bd_4_0, gMO, i0]
theorem cturn_x (n : Nat) (ED : List (Option En)) (LD : D) (row : Int) (bs : List (Option Int)) (hb : bs.length = 8) (pl : List Int) (len : Int) (h2 : len ≤ pl.length) (hu : upA ED row bs pl len = none) (F : List D) (hF : F.length < 5000) (oB : O) (hB : oB = .sh ∨ oB = .root) (x6 : Option DO) :
    ∃ ρ', cB n [some (tbD ED LD, .sh), some (.int row, .sh), some (.lst (bs.map oD), oB), some (.lst (pl.map .int), .sh), some (.lst F, .root), some (.int len, .sh), x6] = .exc (exAst row) ρ' := by
  have fo := foneup n ED LD row bs hb pl len h2
  rw [hu] at fo
  simp only [upR] at fo
  have i0 : ¬ (F.length : Int) = 5000 := by omega
  refine wF_xeq ?_
  simp only [tbD, cB] at fo ⊢
  generalize ED.map enD = EDD at *
  generalize pl.map D.int = PD at *
  generalize bs.map oD = BD at *
  rcases hB with rfl | rfl
  · simp! only [bd_4_0, gMO, i0, fo]
  · simp! only [bd_4_0, gMO, i0, fo]
theorem cturn (n : Nat) (ED : List (Option En)) (LD : D) (row : Int) (bs : List (Option Int)) (hb : bs.length = 8) (pl : List Int) (len : Int) (h2 : len ≤ pl.length) (c : Cl) (hu : upA ED row bs pl len = some c) (F : List D) (hF : F.length < 5000) (oB : O) (hB : oB = .sh ∨ oB = .root) (x6 : Option DO) :
    ∃ y6, cB n [some (tbD ED LD, .sh), some (.int row, .sh), some (.lst (bs.map oD), oB), some (.lst (pl.map .int), .sh), some (.lst F, .root), some (.int len, .sh), x6] = .nx [some (tbD ED LD, .sh), some (.int c.c, .sh), some (.lst (c.mask.map oD), .root), some (.lst (pl.map .int), .sh), some (.lst (F ++ [c.d]), .root), some (.int c.len, .sh), y6] := by
  have fo := foneup n ED LD row bs hb pl len h2
  rw [hu] at fo
  simp only [upR] at fo
  have ap1 : ∀ d, muD .append (.lst F) [d] = some (.non, .lst (F ++ [d])) := fun d => qmuApp (by omega)
  have i0 : ¬ (F.length : Int) = 5000 := by omega
  refine ⟨some (.tup [.int c.k1, .int c.k2, .int c.k3], .sh), ?_⟩
  refine wF_nxeq ?_
  clear hu
  obtain ⟨c, k1, k2, k3, cl⟩ := c
  rw [mask_d]
  simp only [tbD, cB, Cl.d] at fo ⊢
  generalize ED.map enD = EDD at *
  generalize pl.map D.int = PD at *
  generalize bs.map oD = BD at *
  rcases hB with rfl | rfl
  · simp! only [bd_4_0, gMO, i0, fo, ap1, qtyL1]
  · simp! only [bd_4_0, gMO, i0, fo, ap1, qtyL1]
/-- what callers' loop comes to -/
def CEnd (ED : List (Option En)) (LD : D) (PD F : List D) (fl : Fl) : Int ⊕ List Cl → Prop
  | .inr cs => ∃ y1 y2 y5 y6, fl = .nx [some (tbD ED LD, .sh), y1, y2, some (.lst PD, .sh), some (.lst (F ++ cs.map Cl.d), .root), y5, y6]
  | .inl r => ∃ ρ', fl = .exc (exAst r) ρ'
theorem cloop (n : Nat) (ED : List (Option En)) (LD : D) (pl : List Int) : ∀ (k fuel : Nat) (row : Int) (bs : List (Option Int)) (len : Int) (F : List D) (oB : O) (x6 : Option DO), bs.length = 8 → len ≤ pl.length → F.length + k = 5000 → k < fuel → (oB = .sh ∨ oB = .root) →
    CEnd ED LD (pl.map .int) F (whLoop (cT n) (cB n) fuel [some (tbD ED LD, .sh), some (.int row, .sh), some (.lst (bs.map oD), oB), some (.lst (pl.map .int), .sh), some (.lst F, .root), some (.int len, .sh), x6]) (walk ED pl k row bs len) := by
  intro k
  induction k with
  | zero =>
    intro fuel row bs len F oB x6 hb h2 hF hk hB
    obtain ⟨f, rfl⟩ : ∃ f, fuel = f + 1 := ⟨fuel - 1, by omega⟩
    have t := ctest n ED LD row (some (.lst (bs.map oD), oB)) (some (.lst (pl.map .int), .sh)) (some (.lst F, .root)) (some (.int len, .sh)) x6
    unfold walk
    by_cases h : row = (ED.length : Int)
    · rw [if_pos h]
      rw [decide_eq_true h] at t
      exact ⟨_, _, _, _, by rw [wh_f t, List.map_nil, List.append_nil]⟩
    · rw [if_neg h]
      rw [decide_eq_false h] at t
      obtain ⟨ρ', b⟩ := cturn_full n ED LD row (bs.map oD) (pl.map .int) F (by omega) oB hB (.int len) x6
      exact ⟨ρ', wh_x t b⟩
  | succ k ih =>
    intro fuel row bs len F oB x6 hb h2 hF hk hB
    obtain ⟨f, rfl⟩ : ∃ f, fuel = f + 1 := ⟨fuel - 1, by omega⟩
    have t := ctest n ED LD row (some (.lst (bs.map oD), oB)) (some (.lst (pl.map .int), .sh)) (some (.lst F, .root)) (some (.int len, .sh)) x6
    rw [walk]
    by_cases h : row = (ED.length : Int)
    · rw [if_pos h]
      rw [decide_eq_true h] at t
      exact ⟨_, _, _, _, by rw [wh_f t, List.map_nil, List.append_nil]⟩
    · rw [if_neg h]
      rw [decide_eq_false h] at t
      cases hu : upA ED row bs pl len with
      | none =>
        obtain ⟨ρ', b⟩ := cturn_x n ED LD row bs hb pl len h2 hu F (by omega) oB hB x6
        exact ⟨ρ', wh_x t b⟩
      | some c =>
        obtain ⟨y6, b⟩ := cturn n ED LD row bs hb pl len h2 c hu F (by omega) oB hB x6
        rw [wh_t t b]
        have w := ih f c.c c.mask c.len (F ++ [c.d]) .root y6 rfl (by have := (upA_len hu).2; omega) (by rw [List.length_append]; simp; omega) (by omega) (.inr rfl)
        simp only
        cases hw : walk ED pl k c.c c.mask c.len with
        | inl r => rw [hw] at w; exact w
        | inr cs =>
          rw [hw] at w
          obtain ⟨y1, y2, y5, y6, e⟩ := w
          exact ⟨y1, y2, y5, y6, by rw [e, List.append_assoc]; rfl⟩
def calR : Int ⊕ List Cl → Rt
  | .inr cs => .ok (.lst (cs.map Cl.d)) .root []
  | .inl r => .exc (exAst r) []
theorem fcallers (n : Nat) (ED : List (Option En)) (LD : D) (row : Int) (bs : List (Option Int)) (hb : bs.length = 8) (pl : List Int) : tab.fnAt (n + 4) 4 [(tbD ED LD, .sh), (.int row, .sh), (.lst (bs.map oD), .sh), (.lst (pl.map .int), .sh)] = calR (walk ED pl 5000 row bs pl.length) := by
  have w := cloop n ED LD pl 5000 1000000 row bs pl.length [] .sh none hb (by omega) rfl (by decide) (.inl rfl)
  have lP : ((pl.map D.int).length : Int) = (pl.length : Int) := by rw [List.length_map]
  rw [← lP] at w
  rw [lP] at w
  cases hw : walk ED pl 5000 row bs pl.length with
  | inr cs =>
    rw [hw] at w
    obtain ⟨y1, y2, y5, y6, w⟩ := w
    rw [List.nil_append] at w
    rw [← lP] at w
    simp only [tbD, cT, cB, calR] at w ⊢
    generalize pl.map D.int = PD at *
    generalize bs.map oD = BD at *
    generalize ED.map enD = EDD at *
    generalize cs.map Cl.d = CD at *
    refine wFn (n := _) (fun r => r = .ok (.lst CD) .root []) (show tab.defs 4 = _ from rfl) rfl ?_
    simp! only [w]
  | inl z =>
    rw [hw] at w
    obtain ⟨ρ', w⟩ := w
    rw [← lP] at w
    simp only [tbD, cT, cB, calR] at w ⊢
    generalize pl.map D.int = PD at *
    generalize bs.map oD = BD at *
    generalize ED.map enD = EDD at *
    refine wFn (n := _) (fun r => r = .exc (exAst z) []) (show tab.defs 4 = _ from rfl) rfl ?_
    simp! only [w]

/-! ### the law's own walk -/
abbrev dT (n : Nat) : FEnv → Ev Bool := evT (tab.at (n + 2)) wt_11_0
abbrev dB (n : Nat) : FEnv → Fl := evSs (tab.at (n + 2)) bd_11_0
theorem dtest (n : Nat) (ED : List (Option En)) (r : Int) (x2 x3 x4 x5 x6 x7 : Option DO) : dT n [some (.lst (ED.map enD), .sh), some (.int r, .sh), x2, x3, x4, x5, x6, x7] = .ok (!decide (r = (ED.length : Int))) [some (.lst (ED.map enD), .sh), some (.int r, .sh), x2, x3, x4, x5, x6, x7] := by
  refine wT_eq ?_
  have eL : ((ED.map enD).length : Int) = (ED.length : Int) := by rw [List.length_map]
  simp only [dT]
  rw [← eL]
  generalize ED.map enD = EDD at *
  simp! only [wt_11_0]
abbrev asD (r : Int) : D := .tup [.str "astray", .int r]
theorem dturn_full (n : Nat) (EDD : List D) (row : Int) (BD PD F : List D) (hF : F.length = 5000) (oB : O) (hB : oB = .sh ∨ oB = .root) (len : D) (x6 x7 : Option DO) :
    ∃ ρ', dB n [some (.lst EDD, .sh), some (.int row, .sh), some (.lst BD, oB), some (.lst PD, .sh), some (.lst F, .root), some (len, .sh), x6, x7] = .rt (asD row) .root ρ' := by
  have i0 : ¬ (F.length : Int) < 5000 := by omega
  refine wF_req ?_
  simp only [dB]
  by_cases i1 : 0 ≤ row
  · by_cases i2 : row < (EDD.length : Int)
    · rcases hB with rfl | rfl
      · simp! only [bd_11_0, i0, i1, i2, isNon_non]
        all_goals exact ⟨rfl, rfl⟩
      · simp! only [bd_11_0, i0, i1, i2, isNon_non]
        all_goals exact ⟨rfl, rfl⟩
    · rcases hB with rfl | rfl
      · simp! only [bd_11_0, i0, i1, i2, isNon_non]
        all_goals exact ⟨rfl, rfl⟩
      · simp! only [bd_11_0, i0, i1, i2, isNon_non]
        all_goals exact ⟨rfl, rfl⟩
  · rcases hB with rfl | rfl
    · simp! only [bd_11_0, i0, i1, isNon_non]
      all_goals exact ⟨rfl, rfl⟩
    · simp! only [bd_11_0, i0, i1, isNon_non]
      all_goals exact ⟨rfl, rfl⟩
theorem upA_in {ED : List (Option En)} {row : Int} {bs : List (Option Int)} {pl : List Int} {len : Int} (h0 : ¬ row < 0) (h1 : ¬ (ED.length : Int) ≤ row) : ∃ oe, ixD (.lst (ED.map enD)) (.int row) = some (enD oe) ∧ upA ED row bs pl len = oe.bind fun e => upE e bs pl len := by
  obtain ⟨oe, e1, ix⟩ := ixE h0 h1
  refine ⟨oe, ix, ?_⟩
  unfold upA
  rw [if_neg (by intro h; rcases h with h | h; exact h0 h; exact h1 h), e1]
  cases oe <;> rfl
theorem dturn_x (n : Nat) (ED : List (Option En)) (row : Int) (bs : List (Option Int)) (hb : bs.length = 8) (pl : List Int) (len : Int) (h2 : len ≤ pl.length) (hu : upA ED row bs pl len = none) (F : List D) (hF : F.length < 5000) (oB : O) (hB : oB = .sh ∨ oB = .root) (x6 x7 : Option DO) :
    ∃ ρ', dB n [some (.lst (ED.map enD), .sh), some (.int row, .sh), some (.lst (bs.map oD), oB), some (.lst (pl.map .int), .sh), some (.lst F, .root), some (.int len, .sh), x6, x7] = .rt (asD row) .root ρ' := by
  have eL : ((ED.map enD).length : Int) = (ED.length : Int) := by rw [List.length_map]
  have i0 : (F.length : Int) < 5000 := by omega
  refine wF_req ?_
  simp only [dB]
  by_cases i1 : 0 ≤ row
  · by_cases i2 : row < (ED.length : Int)
    · obtain ⟨oe, ix, eu⟩ := upA_in (ED := ED) (bs := bs) (pl := pl) (len := len) (show ¬ row < 0 by omega) (show ¬ (ED.length : Int) ≤ row by omega)
      obtain ⟨o, fu⟩ := flup n oe bs hb pl len h2
      rw [← eu, hu] at fu
      simp only [clD] at fu
      rw [← eL] at i2
      generalize ED.map enD = EDD at *
      generalize pl.map D.int = PD at *
      generalize bs.map oD = BD at *
      generalize enD oe = ed at *
      rcases hB with rfl | rfl
      · simp! only [bd_11_0, i0, i1, i2, ix, fu, isNon_non]
        all_goals exact ⟨rfl, rfl⟩
      · simp! only [bd_11_0, i0, i1, i2, ix, fu, isNon_non]
        all_goals exact ⟨rfl, rfl⟩
    · rw [← eL] at i2
      generalize ED.map enD = EDD at *
      generalize pl.map D.int = PD at *
      generalize bs.map oD = BD at *
      rcases hB with rfl | rfl
      · simp! only [bd_11_0, i0, i1, i2, isNon_non]
        all_goals exact ⟨rfl, rfl⟩
      · simp! only [bd_11_0, i0, i1, i2, isNon_non]
        all_goals exact ⟨rfl, rfl⟩
  · generalize ED.map enD = EDD at *
    generalize pl.map D.int = PD at *
    generalize bs.map oD = BD at *
    rcases hB with rfl | rfl
    · simp! only [bd_11_0, i0, i1, isNon_non]
      all_goals exact ⟨rfl, rfl⟩
    · simp! only [bd_11_0, i0, i1, isNon_non]
      all_goals exact ⟨rfl, rfl⟩
theorem upA_some {ED : List (Option En)} {row : Int} {bs : List (Option Int)} {pl : List Int} {len : Int} {c : Cl} (h : upA ED row bs pl len = some c) : ¬ row < 0 ∧ ¬ (ED.length : Int) ≤ row := by
  unfold upA at h
  split at h
  · cases h
  · rename_i hn
    exact ⟨fun z => hn (.inl z), fun z => hn (.inr z)⟩
theorem dturn (n : Nat) (ED : List (Option En)) (row : Int) (bs : List (Option Int)) (hb : bs.length = 8) (pl : List Int) (len : Int) (h2 : len ≤ pl.length) (c : Cl) (hu : upA ED row bs pl len = some c) (F : List D) (hF : F.length < 5000) (oB : O) (hB : oB = .sh ∨ oB = .root) (x6 x7 : Option DO) :
    ∃ y6 y7, dB n [some (.lst (ED.map enD), .sh), some (.int row, .sh), some (.lst (bs.map oD), oB), some (.lst (pl.map .int), .sh), some (.lst F, .root), some (.int len, .sh), x6, x7] = .nx [some (.lst (ED.map enD), .sh), some (.int c.c, .sh), some (.lst (c.mask.map oD), .root), some (.lst (pl.map .int), .sh), some (.lst (F ++ [c.d]), .root), some (.int c.len, .sh), y6, y7] := by
  have eL : ((ED.map enD).length : Int) = (ED.length : Int) := by rw [List.length_map]
  have ap1 : ∀ d, muD .append (.lst F) [d] = some (.non, .lst (F ++ [d])) := fun d => qmuApp (by omega)
  have i0 : (F.length : Int) < 5000 := by omega
  obtain ⟨g0, g1⟩ := upA_some hu
  obtain ⟨oe, ix, eu⟩ := upA_in (ED := ED) (bs := bs) (pl := pl) (len := len) g0 g1
  obtain ⟨o, fu⟩ := flup n oe bs hb pl len h2
  rw [← eu, hu] at fu
  have i1 : 0 ≤ row := by omega
  have i2 : row < ((ED.map enD).length : Int) := by omega
  clear hu eu g0 g1 eL
  refine ⟨some (c.d, .sh), some (.tup [.int c.k1, .int c.k2, .int c.k3], .sh), ?_⟩
  refine wF_nxeq ?_
  obtain ⟨c, k1, k2, k3, cl⟩ := c
  rw [mask_d]
  simp only [dB, Cl.d, clD] at fu ⊢
  generalize ED.map enD = EDD at *
  generalize pl.map D.int = PD at *
  generalize bs.map oD = BD at *
  generalize enD oe = ed at *
  rcases hB with rfl | rfl
  · simp! only [bd_11_0, i0, i1, i2, ix, fu, ap1, qtyL1, isNon_tup]
  · simp! only [bd_11_0, i0, i1, i2, ix, fu, ap1, qtyL1, isNon_tup]
/-- what the law's loop comes to -/
def DEnd (EDD : List D) (PD F : List D) (fl : Fl) : Int ⊕ List Cl → Prop
  | .inr cs => ∃ y1 y2 y5 y6 y7, fl = .nx [some (.lst EDD, .sh), y1, y2, some (.lst PD, .sh), some (.lst (F ++ cs.map Cl.d), .root), y5, y6, y7]
  | .inl r => ∃ ρ', fl = .rt (asD r) .root ρ'
theorem dloop (n : Nat) (ED : List (Option En)) (pl : List Int) : ∀ (k fuel : Nat) (row : Int) (bs : List (Option Int)) (len : Int) (F : List D) (oB : O) (x6 x7 : Option DO), bs.length = 8 → len ≤ pl.length → F.length + k = 5000 → k < fuel → (oB = .sh ∨ oB = .root) →
    DEnd (ED.map enD) (pl.map .int) F (whLoop (dT n) (dB n) fuel [some (.lst (ED.map enD), .sh), some (.int row, .sh), some (.lst (bs.map oD), oB), some (.lst (pl.map .int), .sh), some (.lst F, .root), some (.int len, .sh), x6, x7]) (walk ED pl k row bs len) := by
  intro k
  induction k with
  | zero =>
    intro fuel row bs len F oB x6 x7 hb h2 hF hk hB
    obtain ⟨f, rfl⟩ : ∃ f, fuel = f + 1 := ⟨fuel - 1, by omega⟩
    have t := dtest n ED row (some (.lst (bs.map oD), oB)) (some (.lst (pl.map .int), .sh)) (some (.lst F, .root)) (some (.int len, .sh)) x6 x7
    unfold walk
    by_cases h : row = (ED.length : Int)
    · rw [if_pos h]
      rw [decide_eq_true h] at t
      exact ⟨_, _, _, _, _, by rw [wh_f t, List.map_nil, List.append_nil]⟩
    · rw [if_neg h]
      rw [decide_eq_false h] at t
      obtain ⟨ρ', b⟩ := dturn_full n (ED.map enD) row (bs.map oD) (pl.map .int) F (by omega) oB hB (.int len) x6 x7
      exact ⟨ρ', wh_r t b⟩
  | succ k ih =>
    intro fuel row bs len F oB x6 x7 hb h2 hF hk hB
    obtain ⟨f, rfl⟩ : ∃ f, fuel = f + 1 := ⟨fuel - 1, by omega⟩
    have t := dtest n ED row (some (.lst (bs.map oD), oB)) (some (.lst (pl.map .int), .sh)) (some (.lst F, .root)) (some (.int len, .sh)) x6 x7
    rw [walk]
    by_cases h : row = (ED.length : Int)
    · rw [if_pos h]
      rw [decide_eq_true h] at t
      exact ⟨_, _, _, _, _, by rw [wh_f t, List.map_nil, List.append_nil]⟩
    · rw [if_neg h]
      rw [decide_eq_false h] at t
      cases hu : upA ED row bs pl len with
      | none =>
        obtain ⟨ρ', b⟩ := dturn_x n ED row bs hb pl len h2 hu F (by omega) oB hB x6 x7
        exact ⟨ρ', wh_r t b⟩
      | some c =>
        obtain ⟨y6, y7, b⟩ := dturn n ED row bs hb pl len h2 c hu F (by omega) oB hB x6 x7
        rw [wh_t t b]
        have w := ih f c.c c.mask c.len (F ++ [c.d]) .root y6 y7 rfl (by have := (upA_len hu).2; omega) (by rw [List.length_append]; simp; omega) (by omega) (.inr rfl)
        simp only
        cases hw : walk ED pl k c.c c.mask c.len with
        | inl r => rw [hw] at w; exact w
        | inr cs =>
          rw [hw] at w
          obtain ⟨y1, y2, y5, y6, y7, e⟩ := w
          exact ⟨y1, y2, y5, y6, y7, by rw [e, List.append_assoc]; rfl⟩
def dueD : Int ⊕ List Cl → D
  | .inr cs => .tup [.str "callers", .lst (cs.map Cl.d)]
  | .inl r => asD r
theorem fdue (n : Nat) (ED : List (Option En)) (row : Int) (bs : List (Option Int)) (hb : bs.length = 8) (pl : List Int) : ∃ o, tab.fnAt (n + 4) 11 [(.lst (ED.map enD), .sh), (.int row, .sh), (.lst (bs.map oD), .sh), (.lst (pl.map .int), .sh)] = .ok (dueD (walk ED pl 5000 row bs pl.length)) o [] := by
  have w := dloop n ED pl 5000 1000000 row bs pl.length [] .sh none none hb (by omega) rfl (by decide) (.inl rfl)
  have lP : ((pl.map D.int).length : Int) = (pl.length : Int) := by rw [List.length_map]
  cases hw : walk ED pl 5000 row bs pl.length with
  | inr cs =>
    rw [hw] at w
    obtain ⟨y1, y2, y5, y6, y7, w⟩ := w
    rw [List.nil_append] at w
    rw [← lP] at w
    refine ⟨.node [.sh, .root], ?_⟩
    simp only [dT, dB, dueD] at w ⊢
    generalize pl.map D.int = PD at *
    generalize bs.map oD = BD at *
    generalize ED.map enD = EDD at *
    generalize cs.map Cl.d = CD at *
    refine wFn (n := _) (fun r => r = .ok (.tup [.str "callers", .lst CD]) (.node [.sh, .root]) []) (show tab.defs 11 = _ from rfl) rfl ?_
    simp! only [w]
  | inl z =>
    rw [hw] at w
    obtain ⟨ρ', w⟩ := w
    rw [← lP] at w
    refine ⟨.root, ?_⟩
    simp only [dT, dB, dueD] at w ⊢
    generalize pl.map D.int = PD at *
    generalize bs.map oD = BD at *
    generalize ED.map enD = EDD at *
    refine wFn (n := _) (fun r => r = .ok (asD z) .root []) (show tab.defs 11 = _ from rfl) rfl ?_
    simp! only [w]

/-! ### told -/
theorem subA0 : subT 1 0 = some true := rfl
theorem subA1 : subT 1 1 = some true := rfl
theorem subAV : subT 1 1000 = some true := rfl
theorem xbA : evX subT 1 (.and (.is 0) (.is 1000)) = some true := rfl
theorem lkR (z : Int) : lookF (["row"] : List Str) [.int z] "row" = some (.int z) := rfl
theorem cdS (s : Str) : constD (.str s) = some (.str s) := rfl
theorem ftold (n : Nat) (ED : List (Option En)) (LD : D) (row : Int) (bs : List (Option Int)) (hb : bs.length = 8) (pl : List Int) : ∃ o, tab.fnAt (n + 5) 12 [(tbD ED LD, .sh), (.int row, .sh), (.lst (bs.map oD), .sh), (.lst (pl.map .int), .sh)] = .ok (dueD (walk ED pl 5000 row bs pl.length)) o [] := by
  have fc := fcallers n ED LD row bs hb pl
  cases hw : walk ED pl 5000 row bs pl.length with
  | inr cs =>
    rw [hw] at fc
    refine ⟨.node [.sh, .root], ?_⟩
    simp only [tbD, calR, dueD] at fc ⊢
    generalize pl.map D.int = PD at *
    generalize bs.map oD = BD at *
    generalize ED.map enD = EDD at *
    generalize cs.map Cl.d = CD at *
    refine wFn (n := _) (fun r => r = .ok (.tup [.str "callers", .lst CD]) (.node [.sh, .root]) []) (show tab.defs 12 = _ from rfl) rfl ?_
    simp! only [fc]
  | inl z =>
    rw [hw] at fc
    refine ⟨.root, ?_⟩
    simp only [tbD, calR, dueD] at fc ⊢
    generalize pl.map D.int = PD at *
    generalize bs.map oD = BD at *
    generalize ED.map enD = EDD at *
    refine wFn (n := _) (fun r => r = .ok (asD z) .root []) (show tab.defs 12 = _ from rfl) rfl ?_
    simp! only [fc, subA1, xbA, lkR, cdS]

/-! ### what is drawn -/
def cellF (z : Int) (m : Nat) : Int := z / 3 % (if z % 3 = 0 then 4294967296 else (m : Int) + 1)
theorem fcell (n : Nat) (z : Int) (m : Nat) : tab.fnAt (n + 2) 6 [(.int z, .sh), (.int (m : Int), .sh)] = .ok (.int (cellF z m)) .sh [] := by
  have ix : ixD (.lst [.int 4294967296, .int ((m : Int) + 1), .int ((m : Int) + 1)]) (.int (z % 3)) = some (.int (if z % 3 = 0 then 4294967296 else (m : Int) + 1)) := by
    obtain ⟨j, hj, hj3⟩ : ∃ j : Nat, z % 3 = (j : Int) ∧ j < 3 := ⟨(z % 3).toNat, by omega, by omega⟩
    rw [hj]
    match j, hj3 with
    | 0, _ => rfl
    | 1, _ => rfl
    | 2, _ => rfl
  have hp : 0 < (if z % 3 = 0 then (4294967296 : Int) else (m : Int) + 1) := by split <;> omega
  have md : binD .Mod (.int (z / 3)) (.int (if z % 3 = 0 then 4294967296 else (m : Int) + 1)) = some (.int (cellF z m), .sh) := qvMod hp
  clear hp
  generalize (if z % 3 = 0 then (4294967296 : Int) else (m : Int) + 1) = q at *
  generalize cellF z m = y at *
  refine wFn (n := _) (fun r => r = .ok (.int y) .sh []) (show tab.defs 6 = _ from rfl) rfl ?_
  simp! only [ix, md]

theorem pow_cast (k : Nat) : ((2 ^ k : Nat) : Int) = 2 ^ k := PySem.W.kbt_cast k
/-- the bit p taken in or not met -/
theorem log2_1 : Nat.log2 1 = 0 := by decide +kernel
theorem e_shl1 {p : Nat} (hp : p ≤ 1000000) : binD .LShift (.int 1) (.int p) = some (.int ((2 ^ p : Nat) : Int), .sh) := by
  have e : (1 : Int) * 2 ^ (p : Int).toNat = ((2 ^ p : Nat) : Int) := by
    rw [Int.toNat_natCast, pow_cast, Int.one_mul]
  have h : 0 ≤ (p : Int) ∧ (1 : Int).natAbs.log2 + (p : Int).toNat ≤ 1000000 := ⟨Int.natCast_nonneg p, by
    rw [show (1 : Int).natAbs = 1 from rfl, log2_1, Int.toNat_natCast]
    omega⟩
  simp only [binD]
  rw [if_pos h, e]

theorem fset (n : Nat) (z h : Int) (h0 : -1 ≤ h) (h5 : h ≤ 5) : ∃ s, tab.fnAt (n + 2) 7 [(.int z, .sh), (.int h, .sh)] = .ok (.int s) .sh [] := by
  by_cases c0 : z % 29 = 3
  · refine ⟨-(z / 29 % 3), ?_⟩
    refine wFn (n := _) (fun r => r = .ok (.int (-(z / 29 % 3))) .sh []) (show tab.defs 7 = _ from rfl) rfl ?_
    simp! only [c0]
  · by_cases c1 : z % 3 = 0
    · have b01 : ∃ b : Bool, decide (z % 7 = 0) = b := ⟨_, rfl⟩
      obtain ⟨b, hb⟩ := b01
      obtain ⟨M, hM, hM1, hM6⟩ : ∃ M : Int, biD .max [.int 1, .int (h + (if b then 1 else 0))] = some (.int M, .sh) ∧ 1 ≤ M ∧ M ≤ 6 := by
        refine ⟨_, qmxI, ?_, ?_⟩ <;> (cases b <;> split <;> simp at * <;> omega)
      obtain ⟨j, hj, hj5⟩ : ∃ j : Nat, z / 3 % M = (j : Int) ∧ j ≤ 5 := by
        have q1 := Int.emod_nonneg (z / 3) (b := M) (by omega)
        have q2 := Int.emod_lt_of_pos (z / 3) (show 0 < M by omega)
        exact ⟨(z / 3 % M).toNat, by omega, by omega⟩
      have md : binD .Mod (.int (z / 3)) (.int M) = some (.int (j : Int), .sh) := by rw [← hj]; exact qvMod (by omega)
      have e8 : (8 : Int) + (j : Int) = ((8 + j : Nat) : Int) := by omega
      have sh := e_shl1 (p := 8 + j) (by omega)
      generalize 2 ^ (8 + j) = P2 at *
      refine ⟨(P2 : Int), ?_⟩
      clear hj
      refine wFn (n := _) (fun r => r = .ok (.int (P2 : Int)) .sh []) (show tab.defs 7 = _ from rfl) rfl ?_
      simp! only [c0, c1, hb, hM, md, e8, sh]
    · obtain ⟨j, hj, hj5⟩ : ∃ j : Nat, z / 3 % 8 = (j : Int) ∧ j ≤ 7 := ⟨(z / 3 % 8).toNat, by omega, by omega⟩
      obtain ⟨i, hi, hi5⟩ : ∃ i : Nat, z / 3 % 3 = (i : Int) ∧ i ≤ 2 := ⟨(z / 3 % 3).toNat, by omega, by omega⟩
      obtain ⟨p, ix, hp⟩ : ∃ p : Nat, ixD (.lst [.int (j : Int), .int ((4 : Int) + (i : Int))]) (.int (z % 2)) = some (.int (p : Int)) ∧ p ≤ 100 := by
        have : z % 2 = 0 ∨ z % 2 = 1 := by omega
        rcases this with e | e
        · rw [e]
          exact ⟨j, rfl, by omega⟩
        · rw [e]
          exact ⟨4 + i, by show some (D.int (4 + (i : Int))) = _; congr 2, by omega⟩
      have sh := e_shl1 (p := p) (by omega)
      generalize 2 ^ p = P2 at *
      refine ⟨(P2 : Int), ?_⟩
      refine wFn (n := _) (fun r => r = .ok (.int (P2 : Int)) .sh []) (show tab.defs 7 = _ from rfl) rfl ?_
      simp! only [c0, c1, hj, hi, ix, sh]
theorem fentry (n : Nat) (z : Int) : ∃ oe o, tab.fnAt (n + 3) 8 [(.int z, .sh)] = .ok (enD oe) o [] := by
  by_cases c0 : z % 6 = 5
  · refine ⟨none, .sh, ?_⟩
    simp only [enD]
    refine wFn (n := _) (fun r => r = .ok .non .sh []) (show tab.defs 8 = _ from rfl) rfl ?_
    simp! only [c0]
  · obtain ⟨b, hb⟩ : ∃ b : Bool, decide (z / 36 % 7 = 0) = b := ⟨_, rfl⟩
    obtain ⟨h, hh, h0, h5⟩ : ∃ h : Int, z / 6 % 6 - (if b then 1 else 0) = h ∧ -1 ≤ h ∧ h ≤ 5 := ⟨_, rfl, by cases b <;> simp <;> omega, by cases b <;> simp <;> omega⟩
    obtain ⟨s0, f0⟩ := fset n (z / 5) h h0 h5
    obtain ⟨s1, f1⟩ := fset n (z / 5 / 11) h h0 h5
    obtain ⟨s2, f2⟩ := fset n (z / 5 / 97) h h0 h5
    obtain ⟨s3, f3⟩ := fset n (z / 5 / 1009) h h0 h5
    refine ⟨some ⟨h, s0, s1, s2, s3⟩, .node [.sh, .sh, .root], ?_⟩
    simp only [enD, En.d]
    refine wFn (n := _) (fun r => r = .ok (.tup [.int h, .int s0, .tup [.int s1, .int s2, .int s3]]) (.node [.sh, .sh, .root]) []) (show tab.defs 8 = _ from rfl) rfl ?_
    simp! only [c0, hb, hh, f0, f1, f2, f3]

theorem rgN (m : Nat) : rangeD 0 (m : Int) = (List.range m).map fun i : Nat => D.int (i : Int) := by
  unfold rangeD
  simp
theorem ne_self {L : List D} (h : Dt 60 (.lst L)) (hn : ∀ c fs ds r, L ≠ .obj c fs ds :: r) : cmpD .NotEq (.lst L) (.lst L) = some false := by
  have e : cmpD .NotEq (.lst L) (.lst L) = (eqD (.lst L) (.lst L)).map (!·) := by
    cases L with
    | nil => rfl
    | cons a L =>
      cases a with
      | obj c fs ds => exact absurd rfl (hn c fs ds L)
      | _ => rfl
  rw [e, eqD_self h]
  rfl
/-! ### the law -/
theorem mkTn {n : Nat} {es : List D} : makSem 2 (tab.fnAt (n + 2) (tab.ini 2)) [(.lst es, .sh), (.non, .sh)] = .ok (.obj 2 ["entries", "landings"] [.lst es, .dic [] []]) (.node [.root, .root]) [] := mak_ok (by
  show tab.fnAt (n + 2) 1 _ = _
  refine wFn (n := _) (fun r => r = .ok .non .sh [(.obj 2 ["entries", "landings"] [.lst es, .dic [] []], .node [.root, .root])]) (show tab.defs 1 = _ from rfl) rfl ?_
  simp! only []
  done)
theorem lents (ns : List Int) (m : Nat) (x1 x2 x3 x4 x5 x6 x7 x8 x9 : Option DO) : ∃ ED : List (Option En), ED.length = m ∧ lcLoop (lcBody [10] false none (evE (tab.at 22) ce_13_0)) (rangeD 0 (m : Int)) [some (.frz (ns.map .int), .sh), x1, x2, x3, x4, x5, x6, x7, x8, x9, none] = .ok (ED.map enD) [some (.frz (ns.map .int), .sh), x1, x2, x3, x4, x5, x6, x7, x8, x9, none] := by
  rw [rgN]
  obtain ⟨as, l, q, e⟩ := lcLoop_ex (α := Option En) (g := enD) (P := fun _ => True) (body := lcBody [10] false none (evE (tab.at 22) ce_13_0)) (ρ := [some (.frz (ns.map .int), .sh), x1, x2, x3, x4, x5, x6, x7, x8, x9, none]) (ds := (List.range m).map fun i : Nat => D.int (i : Int)) fun d hd => by
    obtain ⟨i, _, rfl⟩ := List.mem_map.mp hd
    have e0 : (14 : Int) + (i : Int) = ((14 + i : Nat) : Int) := by omega
    have fc := f24 21 ns (14 + i)
    obtain ⟨oe, o, fe⟩ := fentry 20 (ns.getD (14 + i) 0)
    refine ⟨oe, trivial, lcBody_eq ?_⟩
    generalize enD oe = ed at *
    generalize ns.getD (14 + i) 0 = z at *
    simp! only [ce_13_0, e0, fc, fe]
    all_goals first | rfl | exact ⟨rfl, rfl⟩
  refine ⟨as, by simpa using l, e⟩
theorem lboxes (ns : List Int) (m : Nat) (x2 x3 x4 x5 x6 x7 x8 x9 : Option DO) : lcLoop (lcBody [10] false none (evE (tab.at 22) ce_13_1)) (rangeD 0 8) [some (.frz (ns.map .int), .sh), some (.int (m : Int), .sh), x2, x3, x4, x5, x6, x7, x8, x9, none] = .ok (((List.range 8).map fun k => some (cellF (ns.getD (2 + k) 0) m)).map oD) [some (.frz (ns.map .int), .sh), some (.int (m : Int), .sh), x2, x3, x4, x5, x6, x7, x8, x9, none] := by
  have r8 : rangeD 0 8 = rangeD 0 ((8 : Nat) : Int) := rfl
  rw [r8, rgN, List.map_map]
  refine lcLoop_mg fun k hk => lcBody_eq ?_
  have e0 : (2 : Int) + (k : Int) = ((2 + k : Nat) : Int) := by omega
  have fc := f24 21 ns (2 + k)
  have fe := fcell 21 (ns.getD (2 + k) 0) m
  show wTg _ _ _ _ (fun _ => wE _ (fun y _ _ => wWp _ _ fun _ => y = D.int (cellF (ns.getD (2 + k) 0) m) ∧ _) _) _
  generalize cellF (ns.getD (2 + k) 0) m = y at *
  generalize ns.getD (2 + k) 0 = z at *
  simp! only [ce_13_1, e0, fc, fe]
  all_goals first | rfl | exact ⟨rfl, rfl⟩
theorem lpturn (m : Nat) (z : Int) (P : List Int) (hP : P.length < 1000) (x0 x2 x3 x4 x6 x7 x8 x9 x10 : Option DO) :
    forBody [6] false (evSs (tab.at 22) bd_13_0) (.int z) [x0, some (.int (m : Int), .sh), x2, x3, x4, some (.lst (P.map .int), .root), x6, x7, x8, x9, x10] = .nx [x0, some (.int (m : Int), .sh), x2, x3, x4, some (.lst ((P ++ [cellF z m]).map .int), .root), some (.int z, .sh), x7, x8, x9, x10] := by
  have fe := fcell 21 z m
  have ap : muD .append (.lst (P.map .int)) [.int (cellF z m)] = some (.non, .lst ((P ++ [cellF z m]).map .int)) := by
    rw [qmuApp (by rw [List.length_map]; omega), List.map_append]; rfl
  rw [forBody_1]
  simp only [List.set_cons_succ, List.set_cons_zero]
  refine wF_nxeq ?_
  generalize (P ++ [cellF z m]).map D.int = P2 at *
  generalize cellF z m = y at *
  generalize P.map D.int = P1 at *
  simp! only [bd_13_0, st_13_7, fe, ap, qtyL1]
theorem lploop (m : Nat) (x0 x2 x3 x4 x7 x8 x9 x10 : Option DO) : ∀ (L : List Int) (P : List Int) (x6 : Option DO), P.length + L.length < 1000 → ∃ (P2 : List Int) (y6 : Option DO), forLoop (forBody [6] false (evSs (tab.at 22) bd_13_0)) (L.map .int) [x0, some (.int (m : Int), .sh), x2, x3, x4, some (.lst (P.map .int), .root), x6, x7, x8, x9, x10] = .nx [x0, some (.int (m : Int), .sh), x2, x3, x4, some (.lst (P2.map .int), .root), y6, x7, x8, x9, x10]
  | [], P, x6, _ => ⟨P, x6, rfl⟩
  | z :: L, P, x6, h => by
    simp only [List.length_cons] at h
    have b := lpturn m z P (by omega) x0 x2 x3 x4 x6 x7 x8 x9 x10
    obtain ⟨P2, y6, e⟩ := lploop m x0 x2 x3 x4 x7 x8 x9 x10 L (P ++ [cellF z m]) (some (.int z, .sh)) (by rw [List.length_append]; simp; omega)
    exact ⟨P2, y6, by rw [List.map_cons, forLoop_nx b, e]⟩
theorem Dt_ints (L : List Int) {k : Nat} : Dt (k + 1) (.lst (L.map .int)) := Dt.lst (.of fun d hd => by
  obtain ⟨i, _, rfl⟩ := List.mem_map.mp hd
  exact .int)
theorem Dt_oD (L : List (Option Int)) {k : Nat} : Dt (k + 1) (.lst (L.map oD)) := Dt.lst (.of fun d hd => by
  obtain ⟨i, _, rfl⟩ := List.mem_map.mp hd
  cases i with
  | none => exact .non
  | some v => exact .int)
theorem Dt_due (q : Int ⊕ List Cl) : Dt 60 (dueD q) := by
  cases q with
  | inl r => exact Dt.tup (k := 59) (.cons .str (.cons .int .nil))
  | inr cs => exact Dt.tup (k := 59) (.cons .str (.cons (Dt.lst (k := 58) (.of fun d hd => by
      obtain ⟨c, _, rfl⟩ := List.mem_map.mp hd
      exact Dt.tup (k := 57) (.cons .int (.cons (Dt.tup (k := 56) (.cons .int (.cons .int (.cons .int .nil)))) (.cons .int .nil))))) .nil))
theorem due_eq (q : Int ⊕ List Cl) : cmpD .Eq (dueD q) (dueD q) = some true := by
  have e : cmpD .Eq (dueD q) (dueD q) = eqD (dueD q) (dueD q) := by cases q <;> rfl
  rw [e, eqD_self (Dt_due q)]

theorem cut_ints (ns : List Int) (lo hi : Option Int) : cutL (ns.map D.int) lo hi = (cutL ns lo hi).map D.int := by
  unfold cutL
  rw [List.length_map, ← List.map_drop, ← List.map_take]
theorem cut_len (ns : List Int) (lo hi : Option Int) : (cutL ns lo hi).length ≤ ns.length := by
  unfold cutL
  rw [List.length_take, List.length_drop]
  omega
theorem plain : ∀ ns : List Int, ns.length ≤ 63 → tab.fnAt 24 13 [(.frz (ns.map .int), .sh)] = .ok (.bl true) .sh [] := by
  intro ns hns
  have c0 : tab.fnAt 23 5 [(.frz (ns.map .int), .sh), (.int 0, .sh)] = .ok (.int (ns.getD 0 0)) .sh [] := f24 21 ns 0
  have c1 : tab.fnAt 23 5 [(.frz (ns.map .int), .sh), (.int 1, .sh)] = .ok (.int (ns.getD 1 0)) .sh [] := f24 21 ns 1
  have c10 : tab.fnAt 23 5 [(.frz (ns.map .int), .sh), (.int 10, .sh)] = .ok (.int (ns.getD 10 0)) .sh [] := f24 21 ns 10
  obtain ⟨w, hw, hw1, hw2⟩ : ∃ w : Nat, (1 : Int) + ns.getD 0 0 % 5 = (w : Int) ∧ 1 ≤ w ∧ w ≤ 5 := ⟨(1 + ns.getD 0 0 % 5).toNat, (Int.toNat_of_nonneg (by omega)).symm, by omega, by omega⟩
  have md1 : binD .Mod (.int (ns.getD 1 0)) (.int (w : Int)) = some (.int (ns.getD 1 0 % (w : Int)), .sh) := qvMod (by omega)
  have md2 : binD .Mod (.int (ns.getD 1 0 / 30)) (.int ((w : Int) + 5)) = some (.int (ns.getD 1 0 / 30 % ((w : Int) + 5)), .sh) := qvMod (by omega)
  have rlw : (rangeD 0 (w : Int)).length ≤ 1000000 := by rw [rgN, List.length_map, List.length_range]; omega
  have irw : inRange (w : Int) = true := by unfold inRange; rw [Bool.and_eq_true]; exact ⟨decide_eq_true (by omega), decide_eq_true (by omega)⟩
  have ir8 : inRange 8 = true := rfl
  have rl8 : (rangeD 0 8).length ≤ 1000000 := by decide
  have le := fun x1 x2 x3 x4 x5 x6 x7 x8 x9 => lents ns w x1 x2 x3 x4 x5 x6 x7 x8 x9
  obtain ⟨ED, hED, le⟩ := le (some (.int (w : Int), .sh)) none none none none none none none none
  have lb := fun x2 x3 x4 x5 x6 x7 x8 x9 => lboxes ns w x2 x3 x4 x5 x6 x7 x8 x9
  obtain ⟨bs, hbs, hb⟩ : ∃ bs : List (Option Int), bs = (List.range 8).map (fun k => some (cellF (ns.getD (2 + k) 0) w)) ∧ bs.length = 8 := ⟨_, rfl, by simp⟩
  rw [← hbs] at lb
  clear hbs
  obtain ⟨row, hrow⟩ : ∃ row : Int, row = (if ns.getD 1 0 / 5 % 6 = 0 then ns.getD 1 0 / 30 % ((w : Int) + 5) - 2 else ns.getD 1 0 % (w : Int)) := ⟨_, rfl⟩
  have sl : slD (.frz (ns.map .int)) (some 20) (some (20 + ns.getD 10 0 % 10)) = some (.lst ((cutL ns (some 20) (some (20 + ns.getD 10 0 % 10))).map .int), .root) := by
    show some (D.lst (cutL (ns.map D.int) _ _), O.root) = _
    rw [cut_ints]
  have hl := cut_len ns (some 20) (some (20 + ns.getD 10 0 % 10))
  generalize cutL ns (some 20) (some (20 + ns.getD 10 0 % 10)) = L at *
  have lp := fun x0 x2 x3 x4 x7 x8 x9 x10 => lploop w x0 x2 x3 x4 x7 x8 x9 x10 L [] none (by simp; omega)
  obtain ⟨pl, y6, lp⟩ := lp (some (.frz (ns.map .int), .sh)) (some (.lst (ED.map enD), .root)) (some (.int row, .sh)) (some (.lst (bs.map oD), .root)) none none none none
  obtain ⟨od, fd⟩ := fdue 19 ED row bs hb pl
  obtain ⟨ot, ft⟩ := ftold 18 ED (.dic [] []) row bs hb pl
  have de := due_eq (walk ED pl 5000 row bs pl.length)
  have cH : cmpD .NotEq (.lst [.lst (bs.map oD), .lst (pl.map .int)]) (.lst [.lst (bs.map oD), .lst (pl.map .int)]) = some false := ne_self (Dt.lst (k := 59) (.cons (Dt_oD bs (k := 58)) (.cons (Dt_ints pl (k := 58)) .nil))) (fun c fs ds r h => by cases h)
  generalize dueD (walk ED pl 5000 row bs pl.length) = due at *
  simp only [tbD, List.map_nil] at ft lp
  clear hl hED hb
  generalize pl.map D.int = PD at *
  generalize bs.map oD = BD at *
  generalize ED.map enD = EDD at *
  generalize L.map D.int = LD at *
  generalize ns.getD 0 0 = z0 at *
  generalize ns.getD 1 0 = z1 at *
  generalize ns.getD 10 0 = z10 at *
  by_cases hz : z1 / 5 % 6 = 0
  · rw [if_pos hz] at hrow
    subst hrow
    refine wFn (n := _) (fun r => r = .ok (.bl true) .sh []) (show tab.defs 13 = _ from rfl) rfl ?_
    simp! only [st_13_0, st_13_1, st_13_2, st_13_3, st_13_4, st_13_5, st_13_6, st_13_8, st_13_9, st_13_10, st_13_11, st_13_12, st_13_13, st_13_14, c0, c1, c10, hw, md1, md2, irw, rlw, ir8, rl8, le, lb, hz, sl, lp, fd, ft, mkTn, de, cH]
  · rw [if_neg hz] at hrow
    subst hrow
    refine wFn (n := _) (fun r => r = .ok (.bl true) .sh []) (show tab.defs 13 = _ from rfl) rfl ?_
    simp! only [st_13_0, st_13_1, st_13_2, st_13_3, st_13_4, st_13_5, st_13_6, st_13_8, st_13_9, st_13_10, st_13_11, st_13_12, st_13_13, st_13_14, c0, c1, c10, hw, md1, md2, irw, rlw, ir8, rl8, le, lb, hz, sl, lp, fd, ft, mkTn, de, cH]

end Law
namespace Law
open PySem L2 PyProof.Rows FB
section
theorem all_mk {l : PySem.W.OpenLaw} {w : World} {K : PySem.W.Frag} {h : Heap} {mg : Str → Option Value} {fa : Addr} (X : K.In h) (G : h.Ns mainGlobals mg) (hfa : mg "law" = some (.ref fa)) (c : SaysN fnL dfL exA tsL w K)
    : ∃ fd : FuncData, (∀ (s : Shared) (v : Value), BindsTo s fd ⟨[v], []⟩ [("_law_script", v)]) ∧ ∀ base : Heap, K.In base → base.Ns mainGlobals mg → FnOk l.prog w K mg base (L2.CX l.prog w) 8 fa fd ["_law_script"] (spLaw K) := by
  have q0 : allOf (ex_0 K) = true := c.at 0 rfl
  have q1 : allOf (ex_1 K) = true := c.at 1 rfl
  have q2 : allOf (ex_2 K) = true := c.at 2 rfl
  have e : adA K 13 = fa := by
    have z := (PySem.W.mg_of X G (allOf_get q1 2 rfl)).symm.trans hfa
    injection z with z
    injection z
  subst e
  obtain ⟨oc0, od0, sl0, kV0, dc0, pm0, an0, cd0, ct0, l0, c0⟩ := c.fns.def_ 0 (d := fd_0) rfl
  obtain ⟨fdd1, FD1⟩ := He.DefD.funD (c.dfl 0 (d := fd_1) rfl) (allOf_at q1 4 rfl)
  obtain ⟨oc2, od2, sl2, kV2, dc2, pm2, an2, cd2, ct2, l2, c2⟩ := c.fns.def_ 1 (d := fd_2) rfl
  obtain ⟨oc3, od3, sl3, kV3, dc3, pm3, an3, cd3, ct3, l3, c3⟩ := c.fns.def_ 2 (d := fd_3) rfl
  obtain ⟨oc4, od4, sl4, kV4, dc4, pm4, an4, cd4, ct4, l4, c4⟩ := c.fns.def_ 3 (d := fd_4) rfl
  obtain ⟨oc5, od5, sl5, kV5, dc5, pm5, an5, cd5, ct5, l5, c5⟩ := c.fns.def_ 4 (d := fd_5) rfl
  obtain ⟨oc6, od6, sl6, kV6, dc6, pm6, an6, cd6, ct6, l6, c6⟩ := c.fns.def_ 5 (d := fd_6) rfl
  obtain ⟨oc7, od7, sl7, kV7, dc7, pm7, an7, cd7, ct7, l7, c7⟩ := c.fns.def_ 6 (d := fd_7) rfl
  obtain ⟨oc8, od8, sl8, kV8, dc8, pm8, an8, cd8, ct8, l8, c8⟩ := c.fns.def_ 7 (d := fd_8) rfl
  obtain ⟨oc9, od9, sl9, kV9, dc9, pm9, an9, cd9, ct9, l9, c9⟩ := c.fns.def_ 8 (d := fd_9) rfl
  obtain ⟨oc10, od10, sl10, kV10, dc10, pm10, an10, cd10, ct10, l10, c10⟩ := c.fns.def_ 9 (d := fd_10) rfl
  obtain ⟨oc11, od11, sl11, kV11, dc11, pm11, an11, cd11, ct11, l11, c11⟩ := c.fns.def_ 10 (d := fd_11) rfl
  obtain ⟨oc12, od12, sl12, kV12, dc12, pm12, an12, cd12, ct12, l12, c12⟩ := c.fns.def_ 11 (d := fd_12) rfl
  obtain ⟨oc13, od13, sl13, kV13, dc13, pm13, an13, cd13, ct13, l13, c13⟩ := c.fns.def_ 12 (d := fd_13) rfl
  have T : Txt w K mg (clA K) (adA K) :=
    {
      f_0 := funF_mk (fun_mk (st := (inClass (top 2) 0)) l0 c0 (allOf_get q0 3 rfl)) fun _ _ _ _ _ _ us hl => match us, hl with | [_, _], _ => rfl
      f_1 := funF_mkDD (st := (inClass (top 5) 0)) 2 0 [.none] FD1 (by simp [He.DefD.dvs, fd_1]) (fun _ _ _ _ _ _ _ us its hl hi => match us, hl, its, hi with | [_, _, _], _, [_], _ => ⟨_, rfl, rfl⟩) (fun _ _ _ _ _ _ _ us its hl hi => match us, hl, its, hi with | [_, _], _, [_], _ => ⟨_, rfl, rfl⟩) (by first | rfl | simp [He.DefD.dvs, fd_1]) (by first | rfl | simp [He.DefD.dvs, fd_1]) (by decide)
      f_2 := funF_mk (fun_mk (st := (top 8)) l2 c2 (allOf_get q0 6 rfl)) fun _ _ _ _ _ _ us hl => match us, hl with | [_, _, _, _, _, _], _ => rfl
      f_3 := funF_mk (fun_mk (st := (top 9)) l3 c3 (allOf_get q0 8 rfl)) fun _ _ _ _ _ _ us hl => match us, hl with | [_, _, _, _, _], _ => rfl
      f_4 := funF_mk (fun_mk (st := (top 10)) l4 c4 (allOf_get q0 10 rfl)) fun _ _ _ _ _ _ us hl => match us, hl with | [_, _, _, _], _ => rfl
      f_5 := funF_mk (fun_mk (st := (top 12)) l5 c5 (allOf_get q0 12 rfl)) fun _ _ _ _ _ _ us hl => match us, hl with | [_, _], _ => rfl
      f_6 := funF_mk (fun_mk (st := (top 13)) l6 c6 (allOf_get q0 14 rfl)) fun _ _ _ _ _ _ us hl => match us, hl with | [_, _], _ => rfl
      f_7 := funF_mk (fun_mk (st := (top 14)) l7 c7 (allOf_get q0 16 rfl)) fun _ _ _ _ _ _ us hl => match us, hl with | [_, _], _ => rfl
      f_8 := funF_mk (fun_mk (st := (top 15)) l8 c8 (allOf_get q0 18 rfl)) fun _ _ _ _ _ _ us hl => match us, hl with | [_], _ => rfl
      f_9 := funF_mk (fun_mk (st := (top 16)) l9 c9 (allOf_get q0 20 rfl)) fun _ _ _ _ _ _ us hl => match us, hl with | [_, _, _, _, _], _ => rfl
      f_10 := funF_mk (fun_mk (st := (top 17)) l10 c10 (allOf_get q0 22 rfl)) fun _ _ _ _ _ _ us hl => match us, hl with | [_, _, _, _], _ => rfl
      f_11 := funF_mk (fun_mk (st := (top 18)) l11 c11 (allOf_get q0 24 rfl)) fun _ _ _ _ _ _ us hl => match us, hl with | [_, _, _, _], _ => rfl
      f_12 := funF_mk (fun_mk (st := (top 19)) l12 c12 (allOf_get q1 1 rfl)) fun _ _ _ _ _ _ us hl => match us, hl with | [_, _, _, _], _ => rfl
      f_13 := funF_mk (fun_mk (st := (top 20)) l13 c13 (allOf_get q1 3 rfl)) fun _ _ _ _ _ _ us hl => match us, hl with | [_], _ => rfl
      m__law_cell := PySem.W.mg_of X G (allOf_get q0 13 rfl)
      m__law_cell_at := PySem.W.mg_of X G (allOf_get q0 11 rfl)
      m__law_due := PySem.W.mg_of X G (allOf_get q0 23 rfl)
      m__law_entry := PySem.W.mg_of X G (allOf_get q0 17 rfl)
      m__law_set := PySem.W.mg_of X G (allOf_get q0 15 rfl)
      m__law_told := PySem.W.mg_of X G (allOf_get q1 0 rfl)
      m__law_up := PySem.W.mg_of X G (allOf_get q0 21 rfl)
      m__law_value := PySem.W.mg_of X G (allOf_get q0 19 rfl)
      m_callers := PySem.W.mg_of X G (allOf_get q0 9 rfl)
      m_lying := PySem.W.mg_of X G (allOf_get q0 5 rfl)
      m_one_up := PySem.W.mg_of X G (allOf_get q0 7 rfl)
      c_0 := PySem.W.mg_of X G (allOf_get q0 0 rfl)
      c_1 := PySem.W.mg_of X G (allOf_get q0 1 rfl)
      c_2 := PySem.W.mg_of X G (allOf_get q0 2 rfl)
      mk_2 := ⟨allOf_get q1 5 rfl, allOf_get q1 6 rfl, allOf_get q1 8 rfl, allOf_get q1 7 rfl⟩
      k_2 := ⟨allOf_get q1 9 rfl, allOf_get q1 10 rfl, allOf_get q1 11 rfl, allOf_get q1 12 rfl⟩
      a_2_entries := allOf_get q1 13 rfl
      a_2_landings := allOf_get q1 14 rfl
      n_ValueError := PySem.W.mg_none_of X G (allOf_get q1 15 rfl)
      n_dict := PySem.W.mg_none_of X G (allOf_get q1 16 rfl)
      n_int := PySem.W.mg_none_of X G (allOf_get q1 17 rfl)
      n_isinstance := PySem.W.mg_none_of X G (allOf_get q1 18 rfl)
      n_len := PySem.W.mg_none_of X G (allOf_get q1 19 rfl)
      n_list := PySem.W.mg_none_of X G (allOf_get q1 20 rfl)
      n_max := PySem.W.mg_none_of X G (allOf_get q1 21 rfl)
      n_range := PySem.W.mg_none_of X G (allOf_get q1 22 rfl)
      g_BOXES := He.int_ok X G (allOf_at q1 23 rfl)
      g_MOST := He.int_ok X G (allOf_at q1 24 rfl)
      bi_0 := ⟨allOf_get q2 0 rfl, ⟨_, allOf_get q2 1 rfl, clsBAt_ok (allOf_at q2 2 rfl)⟩⟩
      xf_1 := ⟨allOf_get q2 3 rfl, allOf_get q2 4 rfl, allOf_get q2 5 rfl, allOf_get q2 6 rfl⟩
      xt_1 := ⟨exoB_ok (allOf_at q2 7 rfl), allOf_get q2 8 rfl, allOf_get q2 5 rfl, allOf_get q2 9 rfl, allOf_get q2 10 rfl⟩
      xn_1 := allOf_get q2 11 rfl
      xi_1 := allOf_get q2 12 rfl
      xj_1 := allOf_get q2 13 rfl
      ec_1 := ⟨allOf_get q2 3 rfl, allOf_get q2 4 rfl, allOf_get q2 5 rfl, allOf_get q2 6 rfl, allOf_get q2 14 rfl, allOf_get q2 15 rfl, allOf_get q2 16 rfl, allOf_get q2 17 rfl⟩
      em_1_1 := allOf_get q2 18 rfl
      is_1_0 := allOf_get q2 19 rfl
      is_1_1000 := allOf_get q2 20 rfl
    }
  exact ⟨_, fun s v => .of_eq rfl, fun base _ _ => ((bk_13 (n := 22) T (all_ok T 22) (all_ok T 23) (funZ_of (fun_mk (st := (top 20)) l13 c13 (allOf_get q1 3 rfl)))).imp (law_sp plain)).toOk (by decide)⟩
end
end Law
open PySem PySem.W PySem.Calls PyProof.Rows
set_option maxRecDepth 100000 in
set_option maxHeartbeats 0 in
theorem PySem.Challenge.cw_frameback_k22_astray_holds : PySem.Challenge.rw_frameback_k22_astray.Holds := by
  w_on; o_law
  refine HandSHeadRun.head_any (r := OpenLaw.row PySem.Challenge.rw_frameback_k22_astray) (q := view (OpenLaw.row PySem.Challenge.rw_frameback_k22_astray).prog [20]) (H := FB.hookN Law.asL Law.fnL Law.dfL Law.exA Law.tsL) (ob := Law.ob) (M := 60000) (loose := Law.namesL) (d := HandSHeadRun.topDef (OpenLaw.row PySem.Challenge.rw_frameback_k22_astray).prog 20) (kwd := []) Law.ob_eq
    (by kernel_rfl) (fun s => by kernel_rfl) Law.run (by kernel_rfl) (by kernel_rfl) (by kernel_rfl) (by rfl) (by first | assumption | decide +kernel) (by decide +kernel) ⟨rfl, rfl, rfl, rfl, rfl, by decide +kernel⟩ ?hw ?hc
  case hw => w_witness2
  case hc =>
    refine FB.walk_ofW (l := PySem.Challenge.rw_frameback_k22_astray) (n := 63) (k := 8) (x := "_law_script") (CX := fun w => L2.CX (PySem.Challenge.rw_frameback_k22_astray).prog w) rfl (by decide) (by kernel_rfl) ⟨rfl, by decide, by decide⟩ ?F (fun _ _ _ _ _ z => FB.cx_none z)
    intro w mg fa h Y G hmg0
    obtain ⟨K, KX, c⟩ := Y
    have hmg : mg ("law" : PySem.Str) = some (.ref fa) := by
      have e : (HandSHeadRun.topDef (OpenLaw.row PySem.Challenge.rw_frameback_k22_astray).prog 20).name = ("law" : PySem.Str) := by kernel_rfl
      rw [← e]
      exact hmg0
    obtain ⟨fd, hb, hF⟩ := Law.all_mk (l := PySem.Challenge.rw_frameback_k22_astray) (w := w) KX G hmg c
    exact ⟨K, fd, FB.spLaw K, KX, hb, fun H a ns hl _ hS => ⟨a, ns, rfl, hS, hl, fun _ => rfl⟩, hF⟩
#print axioms PySem.Challenge.cw_frameback_k22_astray_holds
